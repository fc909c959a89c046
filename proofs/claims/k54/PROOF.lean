import PyProof.Rows.All
import Wide.All
import OpenK.AllK
import Wide.FinOn
import HandS.ForMost
import HandS.Exc
import HandS.EndBits
import HandS.Wide
import HandS.Codes
import HandS.TupAny
import HandS.IsInst
import HandS.Walk
import HandS.Flow
import HandS.SetKeys
import HandS.SortKw
import HandS.Style
import KE.SortData
import HandS.More
import HandS.DictComp
import HandS.Defaults
import HandS.Deep
import PyProof.RowDictHeap
import PyProof.ReprRoads
import PyProof.ReprBulk
import HandS.Finally
import PyProof.DictUpdate
import KE.DataCmp
import PySem.Challenge.RW_threeturned_k54_whole_refutations_checke
import HandS.ExcInit
import HandS.ExcIs
import HandS.ExcField
import HandS.Nested
import KE.GoesEnum
import KE.GoesMore
import HandS.Lambda
import KE.DataMinKey
import HandS.RaiseMore
import PyProof.P3In
import KE.KExcInit
import HandS.WordsExc
import HandS.TryOnly
import KE.GoesZip
import HandS.EndTab
set_option Elab.async false
set_option linter.all false
set_option maxRecDepth 100000
set_option maxHeartbeats 4000000
/-! calls with room and with nothing being shown (guards known) -/
namespace U
open PySem PySem.Spec PyProof.Rows L2

/-- room for k calls, and no repr is under way -/
structure Rm (k : Nat) (A : Around) : Prop where
  r : Room k A
  g : A.guards = some []
theorem Rm.mono {j k : Nat} {A : Around} (h : Rm k A) (hj : j ≤ k) : Rm j A := ⟨h.r.mono hj, h.g⟩
theorem Rm.deeper {k : Nat} {A : Around} (h : Rm (k + 1) A) (env : Env) : Rm k (A.deeper env) := ⟨h.r.deeper env, h.g⟩
theorem Rm.u1 {k : Nat} {A : Around} (h : Rm k A) : A.units + 1 < cLine := by
  have z := h.r.un
  omega
theorem Rm.u64 {k : Nat} {A : Around} (h : Rm k A) : A.units + 64 < cLine := h.r.units
theorem Rm.u0 {k : Nat} {A : Around} (h : Rm k A) : A.units < cLine := by
  have z := h.r.un
  omega
theorem Rm.u100 {k : Nat} {A : Around} (h : Rm k A) : A.units + 150 < cLine := by
  have z := h.r.un
  omega

/-- the def at f keeps the promise sp -/
structure FnG (P : Program) (w : World) (K : PySem.W.Frag) (mg : Str → Option Value) (base : Heap) (CX : CXT) (k : Nat) (f : Addr) (fd : FuncData) (ps : List Str) (sp : Sp) : Prop where
  len : ∀ vs H Q E, sp vs H Q E → vs.length = ps.length
  go : ∀ (A : Around) (outer : List Env) (s : Shared) (H : Hp) (args : Args) (us : List Value) (vs : List V) (Q : VK) (E : XK), Rm k A →
    Env0 P w K mg base A outer s H → BindsTo s fd args (ps.zip us) → Vals vs us → sp vs H Q E → codeAny (model P w) A (.call (.ref f) args) (CR CX outer P w H s Q E) s
/-- room ran out of is no way: L2's own promise serves -/
theorem FnG.of {P : Program} {w : World} {K : PySem.W.Frag} {mg : Str → Option Value} {base : Heap} {CX : CXT} {k : Nat} {f : Addr} {fd : FuncData} {ps : List Str} {sp : Sp} (F : FnOk P w K mg base CX k f fd ps sp) : FnG P w K mg base CX k f fd ps sp :=
  ⟨F.len, fun A outer s H args us vs Q E hr => F.run A outer s H args us vs Q E hr.r⟩

section
variable {P : Program} {w : World} {K : PySem.W.Frag} {mg : Str → Option Value} {base : Heap} {CX : CXT}
/-- a def by its body -/
theorem fnG {x qual : Str} {st : Stmt} {f : Addr} {fd : FuncData} {N ps : List Str} {k : Nat} {sp : Sp} (F : Fun K x qual st f fd) (S : FnScope N ps (defScope st)) (len : ∀ vs H Q E, sp vs H Q E → vs.length = ps.length)
    (body : ∀ (cdv : Value) (A : Around) (outer : List Env) (s : Shared) (H : Hp) (vs : List V) (Q : VK) (E : XK), Rm k (A.deeper (envOfC qual (defScope st) s.heap.objs.size f cdv)) → sp vs H Q E →
      ∃ t, PSs (cxOf CX P w K mg base N qual (defScope st) f cdv A outer s H E) (defBody st) t ∧ t { nx := fun _ H' => Q .non H', rt := Q } (start N vs) H) :
    FnG P w K mg base CX (k + 1) f fd ps sp := by
  obtain ⟨oc, od, kV, doc, pm, an, cdv, ct, osl, rfl, lk, hcd⟩ := F.ex
  refine ⟨len, fun A outer s H args us vs Q E room e0 bd rel want => ?_⟩
  have count := len _ _ _ _ want
  have kin : K.In s.heap := e0.mod.kin.keeps fun b o e => (e0.bs b o e).1
  have kinds : ∀ y ∈ ps.zip us, (defScope st).names.lookup y.1 = some .local ∨ ((defScope st).names.lookup y.1 = some .cell ∧ ((cellsFrom (s.heap.objs.size + 1) (defScope st).names []).lookup y.1).isSome = true) := by
    rintro ⟨n, v⟩ hy
    cases S.par n (List.of_mem_zip hy).1 with
    | inl q => exact .inl q
    | inr q => exact .inr ⟨q, PySem.W.cellsFrom_some _ _ _ (.inl q)⟩
  apply codeAny_call_function room.r.depth (kin _ _ lk) rfl S.co S.gen rfl (PySem.W.codeRec_of kin hcd) (bd _ _ _ _ _)
  apply wpAny_newFunctionEnv_cells S.kind kinds
  intro env he s1 x
  subst he
  have lim : s.heap.NoLimit := e0.mod.nolimit.keeps fun b o e => (e0.bs b o e).1
  refine ⟨lim.keeps x.toInCall.keep, codeAny_func ?_⟩
  obtain ⟨t, ht, want'⟩ := body cdv A outer s H vs Q E (room.deeper _) want
  have I := inv_start (CX := CX) (P := P) (w := w) (K := K) (mg := mg) (base := base) (E := E) S room.r.hd e0 count rel x
  refine wpAny_mono (ht.run [] s1 (start N vs) H _ I want') ?_ fun e s' hs => hs
  intro fl s' hs
  cases fl with
  | ret u =>
    obtain ⟨v, σ', H', J, rv, q⟩ := hs
    exact ⟨v, H', J.os, J.bare, J.base, J.hok, rv, q⟩
  | next =>
    obtain ⟨σ', H', J, q⟩ := hs
    exact ⟨V.non, H', J.os, J.bare, J.base, J.hok, rfl, q⟩
  | brk => exact hs.elim fun _ z => z.elim fun _ z => z.2.elim
  | cont => exact hs.elim fun _ z => z.elim fun _ z => z.2.elim
/-- a def that no exception leaves -/
theorem fnG0 {x qual : Str} {st : Stmt} {f : Addr} {fd : FuncData} {N ps : List Str} {k : Nat} {sp : Sp} (F : Fun K x qual st f fd) (S : FnScope N ps (defScope st)) (len : ∀ vs H Q E, sp vs H Q E → vs.length = ps.length)
    (body : ∀ (cdv : Value) (A : Around) (outer : List Env) (s : Shared) (H : Hp) (vs : List V) (Q : VK) (E : XK), Rm k (A.deeper (envOfC qual (defScope st) s.heap.objs.size f cdv)) → sp vs H Q E →
      ∃ t, PSs (cxOf CX0 P w K mg base N qual (defScope st) f cdv A outer s H E).nox (defBody st) t ∧ t { nx := fun _ H' => Q .non H', rt := Q } (start N vs) H) :
    FnG P w K mg base CX0 (k + 1) f fd ps sp := fnG F S len fun cdv A outer s H vs Q E hr h => by
  obtain ⟨t, p, q⟩ := body cdv A outer s H vs Q E hr h
  exact ⟨t, p.nox, q⟩
/-- a def that may be called by its global name -/
structure Cal (P : Program) (w : World) (K : PySem.W.Frag) (mg : Str → Option Value) (base : Heap) (CX : CXT) (k : Nat) (x : Str) (sp : Sp) : Prop where
  ex : ∃ (f : Addr) (fd : FuncData) (ps : List Str), FnG P w K mg base CX k f fd ps sp ∧ mg x = some (.ref f) ∧ PySem.W.keepIn K (.ref f) = true ∧ Binds K fd ps []
end

section
variable {X : Cx} {CX : L2.CXT} {k j : Nat} {f : Addr} {fd : FuncData} {ps : List Str} {sp : Sp} {E : XK} {x : Str} {p pos : Pos} {e : Expr} {es : List Expr} {t : TA}
theorem callG {pins : List (Addr × Obj)} {σ : L2.St} {H : Hp} {s : Shared} {Q : VK} {us : List Value} {vs : List V} (F : FnG X.prog X.w X.K X.mg X.base CX k f fd ps sp) (hr : Rm k X.A) (hb : Binds X.K fd ps []) (hx : Passes CX X E)
    (I : Inv X pins σ H s) (r : Vals vs us) (h : sp vs H Q E) : wpAny (model X.prog X.w) X.A (call (.ref f) us) (EP X pins σ Q) X.xe s := by
  have count : us.length = ps.length := r.length ▸ F.len _ _ _ _ h
  have bd := hb s us I.kIn (by rw [List.append_nil]; exact count)
  rw [List.append_nil] at bd
  refine wpAny_call (codeAny_mono (F.go X.A X.stack s H ⟨us, []⟩ us vs Q E hr I.env0 bd r h) ?_)
  intro res s' hq
  cases res with
  | error er => exact hx pins σ H s er s' I hq
  | ok fl =>
    cases fl with
    | ret u => exact I.after hq
    | next => exact hq.elim
    | brk => exact hq.elim
    | cont => exact hq.elim
/-- f(..): the promise -/
def tC1 (sp : Sp) (E : XK) (t : TA) : TE := fun σ H Q => t σ H fun vs H1 => sp vs H1 Q E
theorem pe_cG (c : Cal X.prog X.w X.K X.mg X.base CX k x sp) (hr : Rm j X.A) (hk : k ≤ j) (hg : Gl X x) (hx : Passes CX X E) (ha : PA X (e :: es) t)
    (hdb : (x == ("__debug__" : Str)) = false := by decide) (he : starEach (e :: es) X.env = (false, eval e X.env) :: starEach es X.env := by rfl) (hpl : (backTo pos (starEach es X.env)).any (·.1) = false := by rfl) :
    PE X (.Call (.Name x p) (e :: es) [] pos) (tC1 sp E t) := by
  obtain ⟨f, fd, ps, F, hm, kp, b⟩ := c.ex
  refine ⟨fun pins s σ H Q I h => wpAny_Call_Name_kw (ld_glob I hg hm ?_ hdb)⟩
  refine PySem.W.callWith_K (h₀ := X.base) I.ok.mod.kin kp (thn (ha.run pos pins s σ H _ I h) ?_) he hpl
  rintro us s1 ⟨vs, H1, I1, r, q⟩
  exact ⟨I1.kIn, callG F (hr.mono hk) b hx I1 r q⟩
/-- f() -/
theorem pe_cG0 (c : Cal X.prog X.w X.K X.mg X.base CX k x sp) (hr : Rm j X.A) (hk : k ≤ j) (hg : Gl X x) (hx : Passes CX X E)
    (hdb : (x == ("__debug__" : Str)) = false := by decide) : PE X (.Call (.Name x p) [] [] pos) (tC1 sp E tNil) := by
  obtain ⟨f, fd, ps, F, hm, kp, b⟩ := c.ex
  refine ⟨fun pins s σ H Q I h => wpAny_Call_Name_kw (ld_glob I hg hm ?_ hdb)⟩
  exact PySem.W.callWith_K0 I.kIn kp (callG (us := []) F (hr.mono hk) b hx I .nil h)
theorem pe_c (c : Cal X.prog X.w X.K X.mg X.base CX0 k x sp) (hr : Rm j X.A) (hk : k ≤ j) (hg : Gl X x) (ha : PA X (e :: es) t)
    (hdb : (x == ("__debug__" : Str)) = false := by decide) (he : starEach (e :: es) X.env = (false, eval e X.env) :: starEach es X.env := by rfl) (hpl : (backTo pos (starEach es X.env)).any (·.1) = false := by rfl) :
    PE X (.Call (.Name x p) (e :: es) [] pos) (tC1 sp E0 t) := pe_cG c hr hk hg pass0 ha hdb he hpl
/-- .. what is raised is wished for at the caller's slots -/
def tC2 (sp : Sp) (W : WX) (t : TA) : TE := fun σ H Q => t σ H fun vs H1 => sp vs H1 Q fun cls d H' => W cls d σ H'
theorem pe_cX {W : WX} (c : Cal X.prog X.w X.K X.mg X.base (L2.CX X.prog X.w) k x sp) (hr : Rm j X.A) (hk : k ≤ j) (hg : Gl X x) (tk : Takes X W) (ha : PA X (e :: es) t)
    (hdb : (x == ("__debug__" : Str)) = false := by decide) (he : starEach (e :: es) X.env = (false, eval e X.env) :: starEach es X.env := by rfl) (hpl : (backTo pos (starEach es X.env)).any (·.1) = false := by rfl) :
    PE X (.Call (.Name x p) (e :: es) [] pos) (tC2 sp W t) := by
  obtain ⟨f, fd, ps, F, hm, kp, b⟩ := c.ex
  refine ⟨fun pins s σ H Q I h => wpAny_Call_Name_kw (ld_glob I hg hm ?_ hdb)⟩
  refine PySem.W.callWith_K (h₀ := X.base) I.ok.mod.kin kp (thn (ha.run pos pins s σ H _ I h) ?_) he hpl
  rintro us s1 ⟨vs, H1, I1, r, q⟩
  refine ⟨I1.kIn, ?_⟩
  have count : us.length = ps.length := r.length ▸ F.len _ _ _ _ q
  have bd := b s1 us I1.kIn (by rw [List.append_nil]; exact count)
  rw [List.append_nil] at bd
  refine wpAny_call (codeAny_mono (F.go X.A X.stack s1 H1 ⟨us, []⟩ us vs _ _ (hr.mono hk) I1.env0 bd r q) ?_)
  intro res s' hq
  cases res with
  | error er => exact tk er s' (XE.of_call I1 (fun cls d H' z => z) hq)
  | ok fl =>
    cases fl with
    | ret u => exact I1.after hq
    | next => exact hq.elim
    | brk => exact hq.elim
    | cont => exact hq.elim
end

/-! ### the law's own head -/
end U

/-! operators by the values that come: one rule an operator -/
namespace U
open PySem PySem.Spec PyProof.Rows L2
section
variable {X : Cx}

/-! ### names of the world -/
theorem bb_len : bootBuiltins "len" = some (.builtin "len") := by decide +kernel
theorem bb_abs : bootBuiltins "abs" = some (.builtin "abs") := by decide +kernel
theorem bb_min : bootBuiltins "min" = some (.builtin "min") := by decide +kernel
theorem bb_sorted : bootBuiltins "sorted" = some (.builtin "sorted") := by decide +kernel
theorem bb_all : bootBuiltins "all" = some (.builtin "all") := by decide +kernel
theorem bb_any : bootBuiltins "any" = some (.builtin "any") := by decide +kernel
theorem bb_isinstance : bootBuiltins "isinstance" = some (.builtin "isinstance") := by decide +kernel
theorem bb_repr : bootBuiltins "repr" = some (.builtin "repr") := by decide +kernel
theorem bb_int : bootBuiltins "int" = some (.type "int") := by decide +kernel
theorem bb_list : bootBuiltins "list" = some (.type "list") := by decide +kernel
theorem bb_tuple : bootBuiltins "tuple" = some (.type "tuple") := by decide +kernel
theorem bb_dict : bootBuiltins "dict" = some (.type "dict") := by decide +kernel
theorem bb_str : bootBuiltins "str" = some (.type "str") := by decide +kernel
theorem bb_bool : bootBuiltins "bool" = some (.type "bool") := by decide +kernel
theorem pe_ty {x : Str} {T : String} {pos : Pos} (hg : Gl X x) (hm : X.mg x = none) (hv : bootBuiltins x = some (.type T)) (hn : x ≠ "__name__" := by decide) (hd : (x == ("__debug__" : Str)) = false := by decide) :
    PE X (.Name x pos) (tC (.ty T)) := pe_bltn hg hm hv rfl hn hd
theorem pe_gl {x : Str} {v : V} {pos : Pos} (hg : Gl X x) (h : ∃ u, X.mg x = some u ∧ RelV v u) (hd : (x == ("__debug__" : Str)) = false := by decide) : PE X (.Name x pos) (tC v) := by
  obtain ⟨u, hm, r⟩ := h
  exact pe_glob hg hm r hd

/-! ### + - * % // ** -/
/-- what is wanted where a new list, a new tuple comes -/
def nL (xs : List V) (H : Hp) (Q : VK) : Prop := ∀ p, H p = none → Q (.ref p) (upd H p (.lst xs))
def nT (xs : List V) (H : Hp) (Q : VK) : Prop := ∀ p, H p = none → Q (.ref p) (upd H p (.tup xs))
def rAddU (K : PySem.W.Frag) : R2 := fun x y H Q => match x, y with
  | .int i, .int j => Q (.int (i + j)) H
  | .str a, .str b => a.length + b.length ≤ sizeLine ∧ Q (.str (a ++ b)) H
  | .ref a, .ref b => (∃ xs ys, H a = some (.lst xs) ∧ H b = some (.lst ys) ∧ xs.length + ys.length ≤ sizeLine ∧ nL (xs ++ ys) H Q) ∨ rCatA K (.ref a) (.ref b) H Q
  | _, _ => False
theorem uAdd : OpR X (binaryOp .Add) (rAddU X.K) := by
  intro pins s σ H x y v u Q I rx ry h
  cases x <;> cases y <;> first | exact h.elim | skip
  · exact op_add pins s σ H _ _ v u Q I rx ry ⟨_, _, rfl, rfl, h⟩
  · exact op_add_str pins s σ H _ _ v u Q I rx ry ⟨_, _, rfl, rfl, h⟩
  · rcases h with ⟨xs, ys, h1, h2, h3, h4⟩ | h
    · exact op_cat pins s σ H _ _ v u Q I rx ry ⟨_, _, _, _, rfl, rfl, h1, h2, h3, h4⟩
    · exact op_catA pins s σ H _ _ v u Q I rx ry h
def rSubU : R2 := fun x y H Q => match x, y with
  | .int i, .int j => Q (.int (i - j)) H
  | _, _ => False
theorem uSub : OpR X (binaryOp .Sub) rSubU := by
  intro pins s σ H x y v u Q I rx ry h
  cases x <;> cases y <;> first | exact h.elim | exact op_sub pins s σ H _ _ v u Q I rx ry ⟨_, _, rfl, rfl, h⟩
/-- a text k times -/
def timesS (z : Str) (k : Int) : Str := ⟨((List.replicate k.toNat z.cps.toList).flatten).toArray⟩
theorem timesS_one (z : Str) : timesS z 1 = z := by
  unfold timesS
  simp
theorem timesS_neg {z : Str} {k : Int} (h : k < 1) : timesS z k = Str.empty := by
  unfold timesS
  have e : k.toNat = 0 := by omega
  rw [e]
  rfl
theorem fold_rep (a : Array Nat) : ∀ (n : Nat) (acc : Array Nat), (List.replicate n a).foldl (· ++ ·) acc = acc ++ ((List.replicate n a.toList).flatten).toArray
  | 0, acc => by simp
  | n + 1, acc => by
    rw [List.replicate_succ, List.foldl_cons, fold_rep a n, List.replicate_succ, List.flatten_cons]
    apply Array.ext'
    simp
theorem timesS_nil {z : Str} {k : Int} (h : z.length = 0) : timesS z k = z := by
  obtain ⟨a⟩ := z
  have e : a = #[] := Array.size_eq_zero_iff.mp h
  subst e
  unfold timesS
  have : (List.replicate k.toNat ([] : List Nat)).flatten = [] := by
    rw [List.flatten_eq_nil_iff]
    intro l hl
    exact List.eq_of_mem_replicate hl
  show (⟨((List.replicate k.toNat ([] : List Nat)).flatten).toArray⟩ : Str) = ⟨#[]⟩
  rw [this]
def rMulU : R2 := fun x y H Q => match x, y with
  | .int i, .int j => (CMul i j ∨ CMulW i j) ∧ Q (.int (i * j)) H
  | .str z, .int k => (0 ≤ k ∧ k ≤ 1000 ∧ z.length ≤ 1000) ∧ Q (.str (timesS z k)) H
  | .ref l, .int k => rRep (.ref l) (.int k) H Q
  | _, _ => False
theorem uMul : OpR X (binaryOp .Mult) rMulU := by
  intro pins s σ H x y v u Q I rx ry h
  cases x <;> cases y <;> first | exact h.elim | skip
  · obtain ⟨c | c, h⟩ := h
    · exact op_mul pins s σ H _ _ v u Q I rx ry ⟨_, _, rfl, rfl, c, h⟩
    · exact op_mulW pins s σ H _ _ v u Q I rx ry ⟨_, _, rfl, rfl, c, h⟩
  · rename_i z k
    obtain ⟨⟨h0, h1, hz⟩, q⟩ := h
    obtain ⟨t, rfl⟩ := rx
    obtain ⟨t', rfl⟩ := ry
    have hl : z.length * k.toNat ≤ 1000 * 1000 := Nat.mul_le_mul hz (by omega)
    refine P.mul_str ?_ ?_ ?_ ?_
    · have a : ¬ k < -(2 ^ 63) := by omega
      have b : ¬ k ≥ 2 ^ 63 := by omega
      rw [decide_eq_false a, decide_eq_false b]
      rfl
    · intro _ _ bad
      have : (z.length : Int) ≤ 1000 := by omega
      have e : (1000 : Int) ≤ (2 ^ 63 - 1) / k := by
        rw [Int.le_ediv_iff_mul_le (by omega)]
        have : (1000 : Int) * k ≤ 1000 * 1000 := Int.mul_le_mul_of_nonneg_left h1 (by decide)
        omega
      omega
    · intro _ _
      unfold Builtin.Str.tooLong
      have : z.length * k.toNat ≤ sizeLine := Nat.le_trans hl (by decide)
      simp
      exact this
    · split
      · rename_i hk
        rw [timesS_neg hk] at q
        exact ⟨by decide, ⟨.str Str.empty, H, I.tok _, ⟨_, rfl⟩, q⟩⟩
      · split
        · rename_i hk hc
          have e : timesS z k = z := by
            rcases (Bool.or_eq_true _ _).mp hc with c | c
            · have : k = 1 := by simpa using c
              rw [this, timesS_one]
            · exact timesS_nil (by simpa using c)
          rw [e] at q
          exact ⟨.str z, H, I.tok _, ⟨_, rfl⟩, q⟩
        · have e : (⟨(List.replicate k.toNat z.cps).foldl (· ++ ·) #[]⟩ : Str) = timesS z k := by
            rw [fold_rep]
            unfold timesS
            congr 1
            simp
          rw [e]
          refine ⟨?_, ⟨.str (timesS z k), H, I.tok _, ⟨_, rfl⟩, q⟩⟩
          have : (timesS z k).length = k.toNat * z.length := by
            unfold timesS Str.length
            simp
          rw [this, Nat.mul_comm]
          exact Nat.le_trans hl (by decide)
  · exact op_rep pins s σ H _ _ v u Q I rx ry h
def rModU : R2 := fun x y H Q => match x, y with
  | .int i, .int j => 0 < j ∧ Q (.int (i % j)) H
  | _, _ => False
theorem uMod : OpR X (binaryOp .Mod) rModU := by
  intro pins s σ H x y v u Q I rx ry h
  cases x <;> cases y <;> first | exact h.elim | exact op_mod pins s σ H _ _ v u Q I rx ry ⟨_, _, rfl, rfl, h.1, h.2⟩
def rDivU : R2 := fun x y H Q => match x, y with
  | .int i, .int j => (0 < j ∧ j < 1073741824) ∧ Q (.int (i / j)) H
  | _, _ => False
theorem uDiv : OpR X (binaryOp .FloorDiv) rDivU := by
  intro pins s σ H x y v u Q I rx ry h
  cases x <;> cases y <;> first | exact h.elim | exact op_fdiv pins s σ H _ _ v u Q I rx ry ⟨_, _, rfl, rfl, h.1, h.2⟩
def rPowU : R2 := fun x y H Q => match x, y with
  | .int i, .int j => CPow i j ∧ Q (.int (i ^ j.toNat)) H
  | _, _ => False
theorem uPow : OpR X (binaryOp .Pow) rPowU := by
  intro pins s σ H x y v u Q I rx ry h
  cases x <;> cases y <;> first | exact h.elim | exact op_pow pins s σ H _ _ v u Q I rx ry ⟨_, _, rfl, rfl, h.1, h.2⟩

/-! ### < <= > >= -/
def rLtU : R2 := fun x y H Q => match x, y with
  | .int i, .int j => Q (.bl (decide (i < j))) H
  | .str a, .str b => Q (.bl (decide (a.cps.toList < b.cps.toList))) H
  | _, _ => False
theorem uLt : OpR X (compareOp .Lt) rLtU := by
  intro pins s σ H x y v u Q I rx ry h
  cases x <;> cases y <;> first | exact h.elim | exact op_lt pins s σ H _ _ v u Q I rx ry ⟨_, _, rfl, rfl, h⟩ | exact op_lt_str pins s σ H _ _ v u Q I rx ry ⟨_, _, rfl, rfl, h⟩
def rLeU : R2 := fun x y H Q => match x, y with
  | .int i, .int j => Q (.bl (decide (i ≤ j))) H
  | _, _ => False
theorem uLe : OpR X (compareOp .LtE) rLeU := by
  intro pins s σ H x y v u Q I rx ry h
  cases x <;> cases y <;> first | exact h.elim | exact op_le pins s σ H _ _ v u Q I rx ry ⟨_, _, rfl, rfl, h⟩
def rGtU : R2 := fun x y H Q => match x, y with
  | .int i, .int j => Q (.bl (decide (j < i))) H
  | _, _ => False
theorem uGt : OpR X (compareOp .Gt) rGtU := by
  intro pins s σ H x y v u Q I rx ry h
  cases x <;> cases y <;> first | exact h.elim | exact op_gt pins s σ H _ _ v u Q I rx ry ⟨_, _, rfl, rfl, h⟩
def rGeU : R2 := fun x y H Q => match x, y with
  | .int i, .int j => Q (.bl (decide (j ≤ i))) H
  | _, _ => False
theorem uGe : OpR X (compareOp .GtE) rGeU := by
  intro pins s σ H x y v u Q I rx ry h
  cases x <;> cases y <;> first | exact h.elim | exact op_ge pins s σ H _ _ v u Q I rx ry ⟨_, _, rfl, rfl, h⟩

/-! ### == != is, is not -/
/-- == of any two: what is told of them is data -/
def eqB (x y : V) : Option Bool := match x, y with
  | .int i, .int j => some (decide (i = j))
  | .str a, .str b => some (decide (a = b))
  | .bl a, .bl b => some (decide (a = b))
  | .non, .non => some true
  | .int _, .str _ => some false
  | .str _, .int _ => some false
  | .non, .str _ => some false
  | .str _, .non => some false
  | .non, .int _ => some false
  | .int _, .non => some false
  | .bl _, .str _ => some false
  | .str _, .bl _ => some false
  | .bl _, .non => some false
  | .non, .bl _ => some false
  | _, _ => none
theorem eqB_scal {x y : V} {b : Bool} (h : eqB x y = some b) : scal x y = true ∧ decide (x = y) = b := by
  cases x <;> cases y <;> simp_all [eqB, scal]
def rEqU (K : PySem.W.Frag) : R2 := fun x y H Q => match eqB x y with
  | some b => Q (.bl b) H
  | none => rEqD K x y H Q
def rNeU (K : PySem.W.Frag) : R2 := fun x y H Q => match eqB x y with
  | some b => Q (.bl (!b)) H
  | none => rNeD K x y H Q
theorem uEq' (hu : X.A.units + 64 < cLine) : OpR X (compareOp .Eq) (rEqU X.K) := by
  intro pins s σ H x y v u Q I rx ry h
  unfold rEqU at h
  cases e : eqB x y with
  | some b =>
    rw [e] at h
    obtain ⟨z1, z2⟩ := eqB_scal e
    exact op_eq pins s σ H _ _ v u Q I rx ry ⟨z1, by rw [z2]; exact h⟩
  | none =>
    rw [e] at h
    exact op_eqD hu pins s σ H _ _ v u Q I rx ry h
theorem uNe' (hu : X.A.units + 64 < cLine) : OpR X (compareOp .NotEq) (rNeU X.K) := by
  intro pins s σ H x y v u Q I rx ry h
  unfold rNeU at h
  cases e : eqB x y with
  | some b =>
    rw [e] at h
    obtain ⟨z1, z2⟩ := eqB_scal e
    exact op_ne pins s σ H _ _ v u Q I rx ry ⟨z1, by rw [z2]; exact h⟩
  | none =>
    rw [e] at h
    exact op_neD hu pins s σ H _ _ v u Q I rx ry h
def rIsU : R2 := fun x y H Q => match y with
  | .non => Q (.bl (decide (x = .non))) H
  | .bl b => ∃ a, x = .bl a ∧ Q (.bl (decide (a = b))) H
  | _ => False
theorem uIs : OpR X (compareOp .Is) rIsU := by
  intro pins s σ H x y v u Q I rx ry h
  cases y <;> first | exact h.elim | exact op_isN pins s σ H _ _ v u Q I rx ry ⟨rfl, h⟩ | skip
  obtain ⟨a, rfl, h⟩ := h
  exact op_isBl pins s σ H _ _ v u Q I rx ry ⟨_, _, rfl, rfl, h⟩
def rIsNotU : R2 := fun x y H Q => match y with
  | .non => Q (.bl (!decide (x = .non))) H
  | .bl b => ∃ a, x = .bl a ∧ Q (.bl (!decide (a = b))) H
  | _ => False
theorem uIsNot : OpR X (compareOp .IsNot) rIsNotU := by
  intro pins s σ H x y v u Q I rx ry h
  cases y <;> first | exact h.elim | exact op_notN pins s σ H _ _ v u Q I rx ry ⟨rfl, h⟩ | skip
  obtain ⟨a, rfl, h⟩ := h
  exact op_notBl pins s σ H _ _ v u Q I rx ry ⟨_, _, rfl, rfl, h⟩

/-! ### in, not in: lists and tuples -/
def rInU (K : PySem.W.Frag) : R2 := fun x y H Q => match y with
  | .ref p => ∃ xs, (SqL K H p xs ∨ SqT K H p xs) ∧ ((flatV x = true ∧ xs.all flatV = true ∧ Q (.bl (inV x xs)) H))
  | _ => False
theorem uIn : OpR X (compareOp .In) (rInU X.K) := by
  intro pins s σ H x y v u Q I rx ry h
  cases y <;> first | exact h.elim | skip
  obtain ⟨xs, h1, h2, h3, h4⟩ := h
  exact op_in_seq pins s σ H _ _ v u Q I rx ry ⟨_, xs, rfl, h1, h2, h3, h4⟩
def rNotInU (K : PySem.W.Frag) : R2 := fun x y H Q => match y with
  | .ref p => ∃ xs, (SqL K H p xs ∨ SqT K H p xs) ∧ ((flatV x = true ∧ xs.all flatV = true ∧ Q (.bl (!inV x xs)) H))
  | _ => False
theorem uNotIn : OpR X (compareOp .NotIn) (rNotInU X.K) := by
  intro pins s σ H x y v u Q I rx ry h
  cases y <;> first | exact h.elim | skip
  obtain ⟨xs, h1, h2, h3, h4⟩ := h
  exact op_notIn_seq pins s σ H _ _ v u Q I rx ry ⟨_, xs, rfl, h1, h2, h3, h4⟩

/-! ### o[i], o[a:b] -/
def rIxU (K : PySem.W.Frag) : R2 := fun x y H Q => match x, y with
  | .str z, .int i => z.length ≤ sizeLine ∧ ∃ c, atI z.cps.toList i = some c ∧ Q (.str ⟨#[c]⟩) H
  | .ref p, .int i => ∃ xs, (SqL K H p xs ∨ SqT K H p xs) ∧ ∃ v, atI xs i = some v ∧ Q v H
  | _, _ => False
theorem uIx : IxR X (rIxU X.K) := by
  intro a b pins s σ H x y v u Q I rx ry h hs
  cases x <;> cases y <;> first | exact h.elim | skip
  · obtain ⟨h1, c, h2, h3⟩ := h
    exact ix_str a b pins s σ H _ _ v u Q I rx ry ⟨_, _, c, rfl, rfl, h1, h2, h3⟩ hs
  · obtain ⟨xs, h1 | h1, w', h2, h3⟩ := h
    · exact ix_list a b pins s σ H _ _ v u Q I rx ry ⟨_, xs, _, w', rfl, rfl, h1, h2, h3⟩ hs
    · exact ix_tup a b pins s σ H _ _ v u Q I rx ry ⟨_, xs, _, w', rfl, rfl, h1, h2, h3⟩ hs
end
end U

/-! slices, built-in functions by the values that come -/
namespace U
open PySem PySem.Spec PyProof.Rows L2
section
variable {X : Cx}
/-! ### slices -/
def rSlU (K : PySem.W.Frag) : V → Option Int → Option Int → Hp → VK → Prop := fun x lo hi H Q => match x with
  | .str z => z.length ≤ sizeLine ∧ Q (.str (cutS z lo hi)) H
  | .ref a => (∃ xs, SqL K H a xs ∧ nL (cutV xs lo hi) H Q) ∨ rSlA K (.ref a) lo hi H Q
  | _ => False
theorem uSl : SlR X (rSlU X.K) := by
  intro pins s σ H x v vl vu lo hi sl Q I rx hs pl pu h
  cases x <;> first | exact h.elim | skip
  · exact sl_str pins s σ H _ v vl vu lo hi sl Q I rx hs pl pu ⟨_, rfl, h.1, h.2⟩
  · rcases h with ⟨xs, h1, h2⟩ | h
    · exact sl_list pins s σ H _ v vl vu lo hi sl Q I rx hs pl pu ⟨_, xs, rfl, h1, h2⟩
    · exact sl_tupA pins s σ H _ v vl vu lo hi sl Q I rx hs pl pu h

/-! ### len, abs, max, min, int, list, tuple -/
def rLenU (K : PySem.W.Frag) : List V → Hp → VK → Prop := fun xs H Q => match xs with
  | [.str z] => z.length ≤ sizeLine ∧ Q (.int z.length) H
  | [.ref p] => (∃ ys, (SqL K H p ys ∨ SqT K H p ys) ∧ Q (.int ys.length) H) ∨ ∃ kvs, H p = some (.dK kvs) ∧ Q (.int kvs.length) H
  | _ => False
theorem cLen : CallR X (.builtin "len") (rLenU X.K) := by
  intro pins s σ H xs us Q I r h
  match xs, h with
  | [.str z], h => exact call_len_str pins s σ H _ us Q I r ⟨z, rfl, h.1, h.2⟩
  | [.ref p], .inl ⟨ys, h1, h2⟩ => exact call_len_seq pins s σ H _ us Q I r ⟨p, ys, rfl, h1, h2⟩
  | [.ref p], .inr ⟨kvs, h1, h2⟩ => exact call_lenD pins s σ H _ us Q I r ⟨p, kvs, rfl, h1, h2⟩
def rAbsU : List V → Hp → VK → Prop := fun xs H Q => match xs with
  | [.int i] => Q (.int (i.natAbs : Int)) H
  | _ => False
theorem cAbs : CallR X (.builtin "abs") rAbsU := by
  intro pins s σ H xs us Q I r h
  match xs, h with
  | [.int i], h =>
    refine call_abs pins s σ H _ us Q I r ⟨i, rfl, ?_⟩
    have e : (if i < 0 then -i else i) = (i.natAbs : Int) := by split <;> omega
    rw [e]
    exact h
def rMaxU : List V → Hp → VK → Prop := fun xs H Q => match xs with
  | [.int i, .int j] => Q (.int (max i j)) H
  | _ => False
def rMinU : List V → Hp → VK → Prop := fun xs H Q => match xs with
  | [.int i, .int j] => Q (.int (min i j)) H
  | _ => False
theorem cMin (hc : X.calm = true) : CallR X (.builtin "min") rMinU := by
  intro pins s σ H xs us Q I r h
  match xs, h with
  | [.int i, .int j], h =>
    refine call_min2 hc pins s σ H _ us Q I r ⟨i, j, rfl, ?_⟩
    have e : (if j < i then j else i) = min i j := by split <;> omega
    rw [e]
    exact h
def bToI (k : Bool) : Int := if k then 1 else 0
def rIntU : List V → Hp → VK → Prop := fun xs H Q => match xs with
  | [.int i] => Q (.int i) H
  | [.bl k] => Q (.int (bToI k)) H
  | _ => False
def rListU (K : PySem.W.Frag) : List V → Hp → VK → Prop := fun xs H Q => match xs with
  | [.ref p] => (∃ ys, (SqL K H p ys ∨ SqT K H p ys) ∧ nL ys H Q) ∨ ∃ kvs : List (Key × V), Rd H p (.dK kvs) ∧ nL (kvs.map fun kv => kV kv.1) H Q
  | _ => False
theorem cList (hc : X.calm = true) : CallR X (.type "list") (rListU X.K) := by
  intro pins s σ H xs us Q I r h
  match xs, h with
  | [.ref p], .inl ⟨ys, h1, h2⟩ => exact call_list_of pins s σ H _ us Q I r ⟨p, ys, rfl, h1, h2⟩
  | [.ref p], .inr ⟨kvs, h1, h2⟩ => exact call_listD hc pins s σ H _ us Q I r ⟨p, kvs, rfl, h1, h2⟩
def rTupleU (K : PySem.W.Frag) : List V → Hp → VK → Prop := fun xs H Q => match xs with
  | [.ref p] => (∃ ys, SqL K H p ys ∧ nT ys H Q) ∨ ((∃ ys, SqT K H p ys) ∧ Q (.ref p) H)
  | _ => False
theorem cTuple : CallR X (.type "tuple") (rTupleU X.K) := by
  intro pins s σ H xs us Q I r h
  match xs, h with
  | [.ref p], .inl ⟨ys, h1, h2⟩ => exact call_tuple_of pins s σ H _ us Q I r ⟨p, ys, rfl, .inl ⟨h1, h2⟩⟩
  | [.ref p], .inr ⟨⟨ys, h1⟩, h2⟩ => exact call_tuple_of pins s σ H _ us Q I r ⟨p, ys, rfl, .inr ⟨h1, h2⟩⟩
def rDictU : List V → Hp → VK → Prop := fun xs H Q => match xs with
  | [.ref p] => ∃ kvs : List (Key × V), Rd H p (.dK kvs) ∧ ∀ d, H d = none → Q (.ref d) (upd H d (.dK kvs))
  | _ => False
theorem cDict : CallR X (.type "dict") rDictU := by
  intro pins s σ H xs us Q I r h
  match xs, h with
  | [.ref p], ⟨kvs, h1, h2⟩ => exact call_dictD pins s σ H _ us Q I r ⟨p, kvs, rfl, h1, h2⟩

def rAllU (K : PySem.W.Frag) : List V → Hp → VK → Prop := fun xs H Q => match xs with
  | [.ref p] => ∃ bs : List Bool, SqL K H p (bs.map V.bl) ∧ Q (.bl (bs.all id)) H
  | _ => False
theorem cAll (hc : X.calm = true) : CallR X (.builtin "all") (rAllU X.K) := by
  intro pins s σ H xs us Q I r h
  match xs, h with
  | [.ref p], ⟨bs, h1, h2⟩ => exact cr_all hc pins s σ H _ us Q I r ⟨p, bs, rfl, h1, h2⟩
def rAnyU (K : PySem.W.Frag) : List V → Hp → VK → Prop := fun xs H Q => match xs with
  | [.ref p] => ∃ bs : List Bool, SqL K H p (bs.map V.bl) ∧ Q (.bl (bs.any id)) H
  | _ => False
theorem cAny (hc : X.calm = true) : CallR X (.builtin "any") (rAnyU X.K) := by
  intro pins s σ H xs us Q I r h
  match xs, h with
  | [.ref p], ⟨bs, h1, h2⟩ => exact cr_any hc pins s σ H _ us Q I r ⟨p, bs, rfl, h1, h2⟩

/-! ### sorted -/
/-- a < b, of data -/
abbrev dLt (a b : PyData) : Bool := PySem.W.dataLt a b
/-- a list of what may be sorted -/
structure Sorts (K : PySem.W.Frag) (H : Hp) (bs : List (V × PyData)) : Prop where
  dat : ∀ b ∈ bs, Dp K H b.1 b.2
  alk : PySem.W.AllAlike (bs.map (·.2))
  srt : PySem.W.Sortable (bs.map (·.2))
  dep : ∀ b ∈ bs, b.2.depth ≤ 50
  len : bs.length ≤ 100000
def rSortU (K : PySem.W.Frag) : List V → Hp → VK → Prop := fun xs H Q => match xs with
  | [.ref p] => ∃ bs : List (V × PyData), SqL K H p (bs.map (·.1)) ∧ Sorts K H bs ∧
      ∀ cs : List (V × PyData), cs.Perm bs → cs.Pairwise (fun a b => dLt b.2 a.2 = false) → nL (cs.map (·.1)) H Q
  | _ => False
theorem each_vals : ∀ {bs : List (V × PyData)} {us : List Value}, Vals (bs.map (·.1)) us → PySem.W.EachIs (fun u b => RelV b.1 u) us bs
  | [], _, r => by
    cases r
    exact .nil
  | b :: bs, _, r => by
    cases r with
    | cons r1 r2 => exact .cons r1 (each_vals r2)
theorem vals_each : ∀ {bs : List (V × PyData)} {us : List Value}, PySem.W.EachIs (fun u b => RelV b.1 u) us bs → Vals (bs.map (·.1)) us
  | [], _, r => by
    cases r
    exact .nil
  | b :: bs, _, r => by
    cases r with
    | cons r1 r2 => exact .cons r1 (vals_each r2)
theorem each_reads {pins : List (Addr × Obj)} {σ : L2.St} {H : Hp} {s : Shared} (I : Inv X pins σ H s) : ∀ {bs : List (V × PyData)} {us : List Value}, (∀ b ∈ bs, Dp X.K H b.1 b.2) → Vals (bs.map (·.1)) us → PySem.W.EachIs (fun u b => ∃ as, Reads s.heap u b.2 as) us bs
  | [], _, _, r => by
    cases r
    exact .nil
  | b :: bs, _, h, r => by
    cases r with
    | cons r1 r2 => exact .cons (Dp.reads I _ _ _ (h b List.mem_cons_self) r1) (each_reads I (fun c hc => h c (List.mem_cons_of_mem _ hc)) r2)
theorem cSorted (hu : X.A.units + 64 < cLine) : CallR X (.builtin "sorted") (rSortU X.K) := by
  intro pins s σ H xs us Q I r h
  match xs, h with
  | [.ref p], ⟨bs, hs, S, q⟩ =>
    cases r with
    | cons r rr =>
      cases rr
      cases r
      obtain ⟨its, rv, pl, hz⟩ := I.list hs
      have e1 := each_vals rv
      have hb : ∀ b, b ∈ bs → X.A.units + 2 + b.2.depth < cLine := fun b hb => by
        have := S.dep b hb
        omega
      refine PySem.W.sorted_data (vs := its) (bs := bs) (enc := fun b : V × PyData => b.2) (R := fun u b => RelV b.1 u) pl.isList e1 (each_reads I S.dat rv) S.alk S.srt ?_ hb ?_
      · rw [List.length_map] at hz
        exact hz
      · intro out ol oe
        have perm : (bs.mergeSort (PySem.W.dataLe false fun b : V × PyData => b.2)).Perm bs := List.mergeSort_perm _ _
        have srt : (bs.mergeSort (PySem.W.dataLe false fun b : V × PyData => b.2)).Pairwise (fun a b => dLt b.2 a.2 = false) :=
          (PySem.W.sort_pairwise (PySem.W.sortLe_total _ _ _) bs).imp fun {a b} z => by
            have z' : (!dLt b.2 a.2) = true := z
            simpa using z'
        generalize bs.mergeSort (PySem.W.dataLe false fun b : V × PyData => b.2) = cs at perm srt oe
        have rv2 := vals_each oe
        have hfr : s.heap.objs.size ≤ s.heap.objs.size + 1 := Nat.le_succ _
        obtain ⟨e, he⟩ := sortedAll_at s.heap its out.toArray
        have new : ObjOk X.prog X.w (upd H (s.heap.objs.size + 1) (.lst (cs.map (·.1)))) (sortedAll s.heap its out.toArray) (s.heap.objs.size + 1) (.lst (cs.map (·.1))) :=
          ⟨by rw [List.length_map, perm.length_eq]; rw [List.length_map] at hz; exact hz, out, e, rv2, he⟩
        exact ⟨.ref (s.heap.objs.size + 1), _, I.laid (t' := s.toks) (fun b u z => sortedAll_old z) hfr new, rfl, q cs perm srt _ (I.hok.fresh hfr)⟩

/-! ### isinstance of built-in classes -/
inductive Ty where
  | non | bl | int | str | lst | tup | dct
  deriving DecidableEq
def Ty.nm : Ty → String
  | .non => "NoneType"
  | .bl => "bool"
  | .int => "int"
  | .str => "str"
  | .lst => "list"
  | .tup => "tuple"
  | .dct => "dict"
def isT (a b : Ty) : Bool := decide (a = b) || (decide (a = .bl) && decide (b = .int))
theorem isT_ok (a b : Ty) (hb : b ≠ .non) : kitB a.nm b.nm = some (isT a b) := by
  cases a <;> cases b <;> first | exact absurd rfl hb | decide +kernel
/-- a value's class -/
def TyIs (K : PySem.W.Frag) (H : Hp) (x : V) (a : Ty) : Prop := TyX K H x (.type a.nm)
def tyOf : String → Option Ty
  | "bool" => some .bl
  | "int" => some .int
  | "str" => some .str
  | "list" => some .lst
  | "tuple" => some .tup
  | "dict" => some .dct
  | _ => none
theorem tyOf_ok {n : String} {t : Ty} (h : tyOf n = some t) : n = t.nm ∧ t ≠ .non := by
  unfold tyOf at h
  split at h <;> first | (cases h; exact ⟨rfl, by decide⟩) | cases h
def rIsiU (K : PySem.W.Frag) : List V → Hp → VK → Prop := fun xs H Q => match xs with
  | [x, .ty n] => ∃ a t, TyIs K H x a ∧ tyOf n = some t ∧ Q (.bl (isT a t)) H
  | _ => False
theorem cIsi : CallR X (.builtin "isinstance") (rIsiU X.K) := by
  intro pins s σ H xs us Q I r h
  match xs, h with
  | [x, .ty n], ⟨a, t, h1, h2, h3⟩ =>
    obtain ⟨e, hn⟩ := tyOf_ok h2
    exact call_isi pins s σ H _ us Q I r ⟨x, _, _, _, _, rfl, .ty n, h1, kit_ty (by rw [e]; exact isT_ok a t hn), h3⟩
theorem ty_str {K : PySem.W.Frag} {H : Hp} {x : Str} : TyIs K H (.str x) .str := .base (.str x)
theorem ty_int {K : PySem.W.Frag} {H : Hp} {x : Int} : TyIs K H (.int x) .int := .base (.int x)
theorem ty_bl {K : PySem.W.Frag} {H : Hp} {x : Bool} : TyIs K H (.bl x) .bl := .base (.bl x)
theorem ty_non {K : PySem.W.Frag} {H : Hp} : TyIs K H .non .non := .base .non
theorem ty_lst {K : PySem.W.Frag} {H : Hp} {a : Addr} {xs : List V} (h : H a = some (.lst xs)) : TyIs K H (.ref a) .lst := .base (.lst h)
theorem ty_tup {K : PySem.W.Frag} {H : Hp} {a : Addr} {xs : List V} (h : H a = some (.tup xs)) : TyIs K H (.ref a) .tup := .base (.tup h)
theorem ty_dK {K : PySem.W.Frag} {H : Hp} {a : Addr} {kvs : List (Key × V)} (h : H a = some (.dK kvs)) : TyIs K H (.ref a) .dct := .base (.dK h)
theorem ty_seqT {K : PySem.W.Frag} {H : Hp} {a : Addr} {xs : List V} (h : SqT K H a xs) : TyIs K H (.ref a) .tup := by
  rcases h with (h | ⟨o, h⟩) | ⟨o, its, n, h1, h2, _⟩
  · exact ty_tup h
  · exact .fTuple h
  · exact .kTuple h1 h2
end
end U
namespace U
open PySem PySem.Spec PyProof.Rows L2
/-! the rules with the fragment told: they serve within a comprehension's block -/
section
variable {X : Cx} (K : PySem.W.Frag) (hK : X.K = K)
include hK
theorem kAdd : OpR X (binaryOp .Add) (rAddU K) := hK ▸ uAdd
theorem kEq (hu : X.A.units + 64 < cLine) : OpR X (compareOp .Eq) (rEqU K) := hK ▸ uEq' hu
theorem kNe (hu : X.A.units + 64 < cLine) : OpR X (compareOp .NotEq) (rNeU K) := hK ▸ uNe' hu
theorem kIn : OpR X (compareOp .In) (rInU K) := hK ▸ uIn
theorem kNotIn : OpR X (compareOp .NotIn) (rNotInU K) := hK ▸ uNotIn
theorem kIx : IxR X (rIxU K) := hK ▸ uIx
theorem kSl : SlR X (rSlU K) := hK ▸ uSl
theorem kLen : CallR X (.builtin "len") (rLenU K) := hK ▸ cLen
theorem kList (hc : X.calm = true) : CallR X (.type "list") (rListU K) := hK ▸ cList hc
theorem kTuple : CallR X (.type "tuple") (rTupleU K) := hK ▸ cTuple
theorem kAll (hc : X.calm = true) : CallR X (.builtin "all") (rAllU K) := hK ▸ cAll hc
theorem kAny (hc : X.calm = true) : CallR X (.builtin "any") (rAnyU K) := hK ▸ cAny hc
theorem kSorted (hu : X.A.units + 64 < cLine) : CallR X (.builtin "sorted") (rSortU K) := hK ▸ cSorted hu
theorem kIsi : CallR X (.builtin "isinstance") (rIsiU K) := hK ▸ cIsi
theorem ki_list {tg l : Expr} {tl : TE} (hl : PE X l tl) : PI X tg l (iList K tl) := hK ▸ pi_list hl
theorem ki_tup {tg l : Expr} {tl : TE} (hl : PE X l tl) : PI X tg l (iTup K tl) := hK ▸ pi_tup hl
theorem kg_tup {pos : Pos} {es : List Expr} {k : Nat} {t : TGs} {n : Nat} (hc : X.calm = true) (h : PGs X es t)
    (hn : (assignEach es X.env).length = n := by rfl) (hst : (assignEach es X.env).findIdx? (·.1) = none := by rfl) : PG X (.Tuple es k pos) (gTup K n t) := hK ▸ pg_tup hc h hn hst
end
end U

/-! the readings, step by step: one lemma a form, one word for all that need no thought -/
namespace U
open PySem PySem.Spec PyProof.Rows L2
section
variable {σ : L2.St} {H : Hp} {Q : VK} {D : Ends} {v x y : V} {i j : Int} {a b : Str} {ta tb tc te : TE} {t u : TS} {K : PySem.W.Frag}
theorem rd_seq (h : t { D with nx := u D } σ H) : tSeq t u D σ H := h
theorem rd_var {n : Nat} (e : σ[n]? = some (some v)) (h : Q v H) : tVar n σ H Q := ⟨v, e, h⟩
theorem rd_c (h : Q v H) : tC v σ H Q := h
theorem rd_asg {g : TG} (h : te σ H fun x H1 => g x σ H1 D.nx) : tAsg te g D σ H := h
theorem rd_name {n : Nat} {Q : L2.St → Hp → Prop} (h : Q (σ.set n (some v)) H) : gName n v σ H Q := h
theorem rd_ret (h : te σ H D.rt) : tRet te D σ H := h
theorem rd_retN (h : D.rt .non H) : tRetN D σ H := h
theorem rd_drop (h : te σ H fun _ H1 => D.nx σ H1) : tDrop te D σ H := h
theorem rd_next (h : D.nx σ H) : tNext D σ H := h
theorem rd_if {c : TT} (h : c σ H fun b H1 => if b = true then t D σ H1 else u D σ H1) : tIfS c t u D σ H := h
theorem rd_break (h : D.bk σ H) : tBreak D σ H := h
theorem rd_cont (h : D.ct σ H) : tCont D σ H := h
theorem rd_op {r : R2} (h : ta σ H fun x H1 => tb σ H1 fun y H2 => r x y H2 Q) : tOp r ta tb σ H Q := h
theorem rd_test {Q : Bool → Hp → Prop} (h : te σ H fun x H1 => ∃ k, x = .bl k ∧ Q k H1) : tTest te σ H Q := h
theorem rd_B {Q : Bool → Hp → Prop} (h : te σ H fun x H1 => ∃ k, x = .bl k ∧ Q k H1) : tB te σ H Q := h
theorem rd_bl {Q : Bool → Prop} {k : Bool} (h : Q k) : ∃ c, V.bl k = .bl c ∧ Q c := ⟨k, rfl, h⟩
theorem rd_chain {r r' : R2} (h : ta σ H fun x H1 => tb σ H1 fun y H2 => r x y H2 fun z H3 => ∃ k, z = .bl k ∧ (if k = true then tc σ H3 fun w' H4 => r' y w' H4 Q else Q (.bl false) H3)) : tChain r r' ta tb tc σ H Q := h
theorem rd_nil {Q : List V → Hp → Prop} (h : Q [] H) : tNil σ H Q := h
theorem rd_cons {tr : TA} {Q : List V → Hp → Prop} (h : ta σ H fun x H1 => tr σ H1 fun xs H2 => Q (x :: xs) H2) : tCons ta tr σ H Q := h
theorem rd_cb {r : List V → Hp → VK → Prop} {tr : TA} (h : tr σ H fun vs H1 => r vs H1 Q) : tCB r tr σ H Q := h
theorem rd_c1 {sp : Sp} {E : XK} {tr : TA} (h : tr σ H fun vs H1 => sp vs H1 Q E) : tC1 sp E tr σ H Q := h
theorem rd_c2 {sp : Sp} {W : WX} {tr : TA} (h : tr σ H fun vs H1 => sp vs H1 Q fun cls d H' => W cls d σ H') : tC2 sp W tr σ H Q := h
theorem rd_lst {tr : TA} (h : tr σ H fun xs H1 => xs.length ≤ sizeLine ∧ nL xs H1 Q) : tLst tr σ H Q := h
theorem rd_tup {tr : TA} (h : tr σ H fun xs H1 => xs.length ≤ sizeLine ∧ nT xs H1 Q) : tTup tr σ H Q := h
theorem rd_sz {xs : List V} {P : Prop} (h : Nat.ble xs.length 1000 = true) (q : P) : xs.length ≤ sizeLine ∧ P :=
  ⟨Nat.le_trans (Nat.le_of_ble_eq_true h) (by decide), q⟩
theorem rd_addI (h : Q (.int (i + j)) H) : rAddU K (.int i) (.int j) H Q := h
theorem rd_subI (h : Q (.int (i - j)) H) : rSubU (.int i) (.int j) H Q := h
theorem rd_mulI (c : CMul i j ∨ CMulW i j) (h : Q (.int (i * j)) H) : rMulU (.int i) (.int j) H Q := ⟨c, h⟩
theorem rd_modI (c : 0 < j) (h : Q (.int (i % j)) H) : rModU (.int i) (.int j) H Q := ⟨c, h⟩
theorem rd_divI (c : 0 < j ∧ j < 1073741824) (h : Q (.int (i / j)) H) : rDivU (.int i) (.int j) H Q := ⟨c, h⟩
theorem rd_addS (c : a.length + b.length ≤ sizeLine) (h : Q (.str (a ++ b)) H) : rAddU K (.str a) (.str b) H Q := ⟨c, h⟩
theorem rd_ltI (h : Q (.bl (decide (i < j))) H) : rLtU (.int i) (.int j) H Q := h
theorem rd_ltS (h : Q (.bl (decide (a.cps.toList < b.cps.toList))) H) : rLtU (.str a) (.str b) H Q := h
theorem rd_leI (h : Q (.bl (decide (i ≤ j))) H) : rLeU (.int i) (.int j) H Q := h
theorem rd_gtI (h : Q (.bl (decide (j < i))) H) : rGtU (.int i) (.int j) H Q := h
theorem rd_geI (h : Q (.bl (decide (j ≤ i))) H) : rGeU (.int i) (.int j) H Q := h
theorem rd_eqI (h : Q (.bl (decide (i = j))) H) : rEqU K (.int i) (.int j) H Q := h
theorem rd_eqS (h : Q (.bl (decide (a = b))) H) : rEqU K (.str a) (.str b) H Q := h
theorem rd_neI (h : Q (.bl (!decide (i = j))) H) : rNeU K (.int i) (.int j) H Q := h
theorem rd_neS (h : Q (.bl (!decide (a = b))) H) : rNeU K (.str a) (.str b) H Q := h
theorem rd_is (h : Q (.bl (decide (x = .non))) H) : rIsU x .non H Q := h
theorem rd_isNot (h : Q (.bl (!decide (x = .non))) H) : rIsNotU x .non H Q := h
theorem rd_absI (h : Q (.int (i.natAbs : Int)) H) : rAbsU [.int i] H Q := h
theorem rd_maxI (h : Q (.int (max i j)) H) : rMaxU [.int i, .int j] H Q := h
theorem rd_minI (h : Q (.int (min i j)) H) : rMinU [.int i, .int j] H Q := h
theorem rd_intI (h : Q (.int i) H) : rIntU [.int i] H Q := h
theorem rd_intB {k : Bool} (h : Q (.int (bToI k)) H) : rIntU [.bl k] H Q := h
theorem rd_neg {g : Int → Int} (h : Q (.int (g i)) H) : rU (fun i => .int (g i)) (.int i) H Q := ⟨i, rfl, h⟩
theorem rd_sub {to ti : TE} {t : TSet} {Q : L2.St → Hp → Prop} (h : to σ H fun o H1 => ti σ H1 fun i H2 => t o i v H2 fun H3 => Q σ H3) : gSub to ti t v σ H Q := h
theorem rd_and {t u : TT} {Q : Bool → Hp → Prop} (h : t σ H fun c H1 => if c = true then u σ H1 Q else Q false H1) : tAnd t u σ H Q := h
theorem rd_or {t u : TT} {Q : Bool → Hp → Prop} (h : t σ H fun c H1 => if c = true then Q true H1 else u σ H1 Q) : tOr t u σ H Q := h
theorem rd_not {t : TT} {Q : Bool → Hp → Prop} (h : t σ H fun c H1 => Q (!c) H1) : tNot t σ H Q := h
theorem rd_andV (h : ta σ H fun x H1 => ∃ c, x = .bl c ∧ if c = true then tb σ H1 Q else Q (.bl false) H1) : tAndV ta tb σ H Q := h
theorem rd_orV (h : ta σ H fun x H1 => ∃ c, x = .bl c ∧ if c = true then Q (.bl true) H1 else tb σ H1 Q) : tOrV ta tb σ H Q := h
theorem rd_notV (h : ta σ H fun x H1 => ∃ c, x = .bl c ∧ Q (.bl (!c)) H1) : tNotV ta σ H Q := h
theorem rd_ifE {t : TT} (h : t σ H fun c H1 => if c = true then ta σ H1 Q else tb σ H1 Q) : tIf t ta tb σ H Q := h
theorem rd_T {A B : Prop} (h : A) : if true = true then A else B := by
  rw [if_pos rfl]
  exact h
theorem rd_F {A B : Prop} (h : B) : if false = true then A else B := by
  rw [if_neg Bool.false_ne_true]
  exact h
/-- a test that is known -/
theorem rd_yes {c : Prop} {_ : Decidable c} {A B : Prop} (hc : c) (h : A) : if decide c = true then A else B := by
  rw [if_pos (decide_eq_true hc)]
  exact h
theorem rd_no {c : Prop} {_ : Decidable c} {A B : Prop} (hc : ¬ c) (h : B) : if decide c = true then A else B := by
  rw [if_neg (by rw [decide_eq_false hc]; exact Bool.false_ne_true)]
  exact h
theorem rd_nyes {c : Prop} {_ : Decidable c} {A B : Prop} (hc : ¬ c) (h : A) : if (!decide c) = true then A else B := by
  rw [if_pos (by rw [decide_eq_false hc]; rfl)]
  exact h
theorem rd_nno {c : Prop} {_ : Decidable c} {A B : Prop} (hc : c) (h : B) : if (!decide c) = true then A else B := by
  rw [if_neg (by rw [decide_eq_true hc]; exact Bool.false_ne_true)]
  exact h
theorem rd_split {c : Prop} {_ : Decidable c} {A B : Prop} (h1 : c → A) (h2 : ¬ c → B) : if decide c = true then A else B := by
  by_cases h : c
  · exact rd_yes h (h1 h)
  · exact rd_no h (h2 h)
theorem rd_nsplit {c : Prop} {_ : Decidable c} {A B : Prop} (h1 : ¬ c → A) (h2 : c → B) : if (!decide c) = true then A else B := by
  by_cases h : c
  · exact rd_nno h (h2 h)
  · exact rd_nyes h (h1 h)
theorem rd_b {c : Bool} {A B : Prop} (h1 : c = true → A) (h2 : c = false → B) : if c = true then A else B := by
  cases c with
  | true => exact rd_T (h1 rfl)
  | false => exact rd_F (h2 rfl)
/-- an item of a list, a tuple -/
theorem rd_ixL {p : Addr} {xs : List V} (hs : SqL K H p xs) (hv : atI xs i = some v) (h : Q v H) : rIxU K (.ref p) (.int i) H Q := ⟨xs, .inl hs, v, hv, h⟩
theorem rd_ixT {p : Addr} {xs : List V} (hs : SqT K H p xs) (hv : atI xs i = some v) (h : Q v H) : rIxU K (.ref p) (.int i) H Q := ⟨xs, .inr hs, v, hv, h⟩
theorem rd_ixS {c : Nat} (hz : a.length ≤ 100000) (hv : atI a.cps.toList i = some c) (h : Q (.str ⟨#[c]⟩) H) : rIxU K (.str a) (.int i) H Q := ⟨Nat.le_trans hz (by decide), c, hv, h⟩
theorem rd_lenL {p : Addr} {xs : List V} (hs : SqL K H p xs) (h : Q (.int xs.length) H) : rLenU K [.ref p] H Q := .inl ⟨xs, .inl hs, h⟩
theorem rd_lenT {p : Addr} {xs : List V} (hs : SqT K H p xs) (h : Q (.int xs.length) H) : rLenU K [.ref p] H Q := .inl ⟨xs, .inr hs, h⟩
theorem rd_lenD {p : Addr} {kvs : List (Key × V)} (hs : H p = some (.dK kvs)) (h : Q (.int kvs.length) H) : rLenU K [.ref p] H Q := .inr ⟨kvs, hs, h⟩
theorem rd_setL {p : Addr} {xs : List V} {n : Nat} {Q : Hp → Prop} (hs : H p = some (.lst xs)) (hi : ixN xs.length i = some n) (h : Q (upd H p (.lst (xs.set n v)))) : rSetL (.ref p) (.int i) v H Q := ⟨p, xs, i, n, rfl, rfl, hs, hi, h⟩
theorem rd_listL {p : Addr} {xs : List V} (hs : SqL K H p xs) (h : nL xs H Q) : rListU K [.ref p] H Q := .inl ⟨xs, .inl hs, h⟩
theorem rd_tupleL {p : Addr} {xs : List V} (hs : SqL K H p xs) (h : nT xs H Q) : rTupleU K [.ref p] H Q := .inl ⟨xs, hs, h⟩
theorem rd_slL {lo hi : Option Int} {p : Addr} {xs : List V} (hs : SqL K H p xs) (h : nL (cutV xs lo hi) H Q) : rSlU K (.ref p) lo hi H Q := .inl ⟨xs, hs, h⟩
theorem rd_sl {tl th : TO} {r : V → Option Int → Option Int → Hp → VK → Prop} (h : te σ H fun x H1 => tl σ H1 fun lo H2 => th σ H2 fun hi H3 => r x lo hi H3 Q) : tSl r te tl th σ H Q := h
theorem rd_noPart {Q : Option Int → Hp → Prop} (h : Q none H) : tNoPart σ H Q := h
theorem rd_part {Q : Option Int → Hp → Prop} (h : te σ H fun x H1 => ∃ i, x = .int i ∧ Q (some i) H1) : tPart te σ H Q := h
theorem rd_exI {Q : Int → Prop} (h : Q i) : ∃ k, V.int i = .int k ∧ Q k := ⟨i, rfl, h⟩
theorem rd_bm {T : String} {r : V → List V → Hp → VK → Prop} {tr : TA} (h : te σ H fun x H1 => tyV K T x H1 ∧ tr σ H1 fun xs H2 => r x xs H2 Q) : tBM K T r te tr σ H Q := h
theorem rd_bm0 {T : String} {r : V → List V → Hp → VK → Prop} (h : te σ H fun x H1 => tyV K T x H1 ∧ r x [] H1 Q) : tBM0 K T r te σ H Q := h
theorem rd_tyL {p : Addr} {xs : List V} {P : Prop} (hs : H p = some (.lst xs)) (h : P) : tyV K "list" (.ref p) H ∧ P := ⟨.inl ⟨rfl, xs, .inl (.inl hs)⟩, h⟩
theorem rd_append {p : Addr} {xs : List V} (hs : H p = some (.lst xs)) (hz : xs.length < 100000) (h : Q .non (upd H p (.lst (xs ++ [v])))) : rAppend (.ref p) [v] H Q :=
  ⟨p, xs, v, rfl, rfl, hs, Nat.lt_of_lt_of_le hz (by decide), h⟩
theorem mul_bI {i : Int} {b : Bool} : CMul i (bToI b) ∨ CMulW i (bToI b) := .inl (.inr (by cases b <;> decide))
theorem rd_powI (c : CPow i j) (h : Q (.int (i ^ j.toNat)) H) : rPowU (.int i) (.int j) H Q := ⟨c, h⟩
/-! heaps -/
theorem new_ne {p q : Addr} {o : HO} (h : upd H p o q = none) : q ≠ p := fun e => by
  rw [e, upd_same] at h
  cases h
theorem new_old {p q : Addr} {o : HO} (h : upd H p o q = none) : H q = none := by
  rw [upd_ne (new_ne h)] at h
  exact h
theorem at_upd {p q : Addr} {o u : HO} (n : q ≠ p) (h : H q = some u) : upd H p o q = some u := (upd_ne n).trans h
/-- all that is tracked stays, but the object at p -/
def But (p : Addr) (H H' : Hp) : Prop := ∀ b o, b ≠ p → H b = some o → H' b = some o
theorem But.refl {p : Addr} : But p H H := fun _ _ _ h => h
theorem But.trans {p : Addr} {H1 H2 : Hp} (a : But p H H1) (b : But p H1 H2) : But p H H2 := fun c o n h => b c o n (a c o n h)
theorem But.of_same {p : Addr} {H1 : Hp} (a : Same H H1) : But p H H1 := fun c o _ h => a c o h
theorem But.upd {p : Addr} {o : HO} : But p H (upd H p o) := fun _ _ n h => at_upd n h
theorem But.new {p q : Addr} {o : HO} (h : H q = none) : But p H (L2.upd H q o) := fun _ _ _ e => at_upd (ne_of_none e h) e
theorem Same.new {q : Addr} {o : HO} (h : H q = none) : Same H (L2.upd H q o) := fun _ _ e => at_upd (ne_of_none e h) e
theorem But.free {p q : Addr} {H1 : Hp} (a : But p H H1) (n : q ≠ p) (h : H1 q = none) : H q = none := by
  cases e : H q with
  | none => rfl
  | some o =>
    rw [a q o n e] at h
    cases h
theorem new_of_same {q : Addr} {H1 : Hp} (a : Same H H1) (h : H1 q = none) : H q = none := a.free h
theorem Same.seqT {H' : Hp} {a : Addr} {xs : List V} (e : Same H H') (h : SqT K H a xs) : SqT K H' a xs := by
  rcases h with (h | ⟨o, h⟩) | h
  · exact .inl (.inl (e _ _ h))
  · exact .inl (.inr ⟨o, e _ _ h⟩)
  · exact .inr h
theorem But.seqT {p : Addr} {H' : Hp} {a : Addr} {xs : List V} (e : But p H H') (n : ∃ ys, H p = some (.lst ys)) (h : SqT K H a xs) : SqT K H' a xs := by
  obtain ⟨ys, hy⟩ := n
  rcases h with (h | ⟨o, h⟩) | h
  · exact .inl (.inl (e _ _ (ne_of h hy (by intro z; cases z)) h))
  · exact .inl (.inr ⟨o, e _ _ (ne_of h hy (by intro z; cases z)) h⟩)
  · exact .inr h
theorem rd_un {r : V → Hp → VK → Prop} (h : ta σ H fun x H1 => r x H1 Q) : tUn r ta σ H Q := h
end
local macro_rules | `(tactic| wtm_at "rd1") => `(tactic| first
  | with_reducible refine rd_seq ?_
  | ((with_reducible refine rd_var (v := ?vv) ?hv ?_); (case hv => exact rfl))
  | with_reducible refine rd_c ?_
  | with_reducible refine rd_cons ?_
  | with_reducible refine rd_nil ?_
  | with_reducible refine rd_op ?_
  | with_reducible refine rd_asg ?_
  | with_reducible refine rd_name ?_
  | with_reducible refine rd_c1 ?_
  | with_reducible refine rd_cb ?_
  | with_reducible refine rd_test ?_
  | with_reducible refine rd_B ?_
  | with_reducible refine rd_bl ?_
  | with_reducible refine rd_if ?_
  | with_reducible refine rd_ret ?_
  | with_reducible refine rd_drop ?_
  | with_reducible refine rd_next ?_
  | with_reducible refine rd_addI ?_
  | with_reducible refine rd_ltI ?_
  | with_reducible refine rd_eqI ?_
  | with_reducible refine rd_neI ?_
  | with_reducible refine rd_eqS ?_
  | with_reducible refine rd_neS ?_
  | with_reducible refine rd_gtI ?_
  | with_reducible refine rd_geI ?_
  | with_reducible refine rd_leI ?_
  | with_reducible refine rd_ltS ?_
  | with_reducible refine rd_subI ?_
  | ((with_reducible refine rd_modI ?hc ?_); (case hc => first | decide | omega))
  | ((with_reducible refine rd_mulI ?hc ?_); (case hc => first | exact mul_bI | exact .inl (.inr (by decide)) | exact .inl (.inl (by decide)) | exact .inl (.inr (by omega)) | exact .inl (.inl (by omega))))
  | ((with_reducible refine rd_divI ?hc ?_); (case hc => first | decide | omega))
  | ((with_reducible refine rd_powI ?hc ?_); (case hc => exact ⟨by decide, by decide, by decide⟩))
  | with_reducible refine rd_lst ?_
  | with_reducible refine rd_tup ?_
  | ((with_reducible refine rd_sz ?hv ?_); (case hv => exact rfl))
  | with_reducible refine rd_and ?_
  | with_reducible refine rd_or ?_
  | with_reducible refine rd_not ?_
  | with_reducible refine rd_andV ?_
  | with_reducible refine rd_orV ?_
  | with_reducible refine rd_notV ?_
  | with_reducible refine rd_ifE ?_
  | with_reducible refine rd_T ?_
  | with_reducible refine rd_F ?_
  | with_reducible refine rd_chain ?_
  | with_reducible refine rd_is ?_
  | with_reducible refine rd_isNot ?_
  | with_reducible refine rd_absI ?_
  | with_reducible refine rd_maxI ?_
  | with_reducible refine rd_minI ?_
  | with_reducible refine rd_intI ?_
  | with_reducible refine rd_intB ?_
  | with_reducible refine rd_sub ?_
  | with_reducible refine rd_sl ?_
  | with_reducible refine rd_noPart ?_
  | with_reducible refine rd_part ?_
  | with_reducible refine rd_exI ?_
  | with_reducible refine rd_bm ?_
  | with_reducible refine rd_bm0 ?_
  | with_reducible refine rd_un ?_
  | with_reducible refine rd_neg ?_
  | with_reducible refine rd_c2 ?_
  | with_reducible refine rd_retN ?_
  | with_reducible refine rd_break ?_
  | with_reducible refine rd_cont ?_)
local macro_rules | `(tactic| wtm_at "rd") => `(tactic| repeat wtm_at "rd1")
end U

/-! texts in order, names -/
namespace U
open PySem PySem.Spec PyProof.Rows L2
/-- the order of texts -/
def sLt (a b : Str) : Prop := a.cps.toList < b.cps.toList
instance (a b : Str) : Decidable (sLt a b) := inferInstanceAs (Decidable (a.cps.toList < b.cps.toList))
theorem str_ext {a b : Str} (h : a.cps.toList = b.cps.toList) : a = b := by
  obtain ⟨x⟩ := a
  obtain ⟨y⟩ := b
  have e : x = y := Array.toList_inj.mp h
  rw [e]
theorem sLt_irrefl (a : Str) : ¬ sLt a a := List.lt_irrefl _
theorem sLt_trans {a b c : Str} (h : sLt a b) (h' : sLt b c) : sLt a c := List.lt_trans h h'
theorem sLt_asymm {a b : Str} (h : sLt a b) : ¬ sLt b a := fun h' => sLt_irrefl a (sLt_trans h h')
theorem sLt_total {a b : Str} (h : ¬ sLt b a) (n : a ≠ b) : sLt a b := by
  have h1 : a.cps.toList ≤ b.cps.toList := List.not_lt.mp h
  rcases List.le_iff_lt_or_eq.mp h1 with z | z
  · exact z
  · exact absurd (str_ext z) n
theorem sLt_tri (a b : Str) : sLt a b ∨ a = b ∨ sLt b a := by
  by_cases h : sLt b a
  · exact .inr (.inr h)
  · by_cases e : a = b
    · exact .inr (.inl e)
    · exact .inl (sLt_total h e)
/-- strictly upwards -/
abbrev Asc (xs : List Str) : Prop := xs.Pairwise sLt
theorem asc_nodup {xs : List Str} (h : Asc xs) : xs.Nodup := by
  refine List.Pairwise.imp ?_ h
  intro a b z e
  subst e
  exact sLt_irrefl _ z
/-- two lists upwards with the same members are one -/
theorem asc_unique : ∀ {xs ys : List Str}, Asc xs → Asc ys → (∀ z, z ∈ xs ↔ z ∈ ys) → xs = ys
  | [], [], _, _, _ => rfl
  | [], y :: ys, _, _, h => absurd ((h y).mpr List.mem_cons_self) List.not_mem_nil
  | x :: xs, [], _, _, h => absurd ((h x).mp List.mem_cons_self) List.not_mem_nil
  | x :: xs, y :: ys, hx, hy, h => by
    rw [Asc, List.pairwise_cons] at hx hy
    have e : x = y := by
      rcases List.mem_cons.mp ((h x).mp List.mem_cons_self) with z | z
      · exact z
      · rcases List.mem_cons.mp ((h y).mpr List.mem_cons_self) with z2 | z2
        · exact z2.symm
        · exact absurd (hx.1 _ z2) (sLt_asymm (hy.1 _ z))
    subst e
    have t : xs = ys := asc_unique hx.2 hy.2 fun z => by
      constructor
      · intro hz
        rcases List.mem_cons.mp ((h z).mp (List.mem_cons_of_mem _ hz)) with e | e
        · subst e
          exact absurd (hx.1 _ hz) (sLt_irrefl _)
        · exact e
      · intro hz
        rcases List.mem_cons.mp ((h z).mpr (List.mem_cons_of_mem _ hz)) with e | e
        · subst e
          exact absurd (hy.1 _ hz) (sLt_irrefl _)
        · exact e
    rw [t]
theorem asc_of_sorted {xs : List Str} (h : xs.Pairwise fun a b => ¬ sLt b a) (n : xs.Nodup) : Asc xs := by
  have z : xs.Pairwise fun a b => ¬ sLt b a ∧ a ≠ b := List.Pairwise.and h n
  exact z.imp fun {a b} q => sLt_total q.1 q.2
/-- an edge's order -/
def eLt (a b : Str × Str) : Prop := sLt a.1 b.1 ∨ (a.1 = b.1 ∧ sLt a.2 b.2)
instance (a b : Str × Str) : Decidable (eLt a b) := inferInstanceAs (Decidable (_ ∨ _))
theorem eLt_irrefl (a : Str × Str) : ¬ eLt a a := fun h => h.elim (sLt_irrefl _) fun z => sLt_irrefl _ z.2
theorem eLt_total {a b : Str × Str} (h : ¬ eLt b a) (n : a ≠ b) : eLt a b := by
  rcases sLt_tri a.1 b.1 with z | z | z
  · exact .inl z
  · rcases sLt_tri a.2 b.2 with y | y | y
    · exact .inr ⟨z, y⟩
    · exact absurd (Prod.ext z y) n
    · exact absurd (.inr ⟨z.symm, y⟩) h
  · exact absurd (.inl z) h
abbrev AscE (xs : List (Str × Str)) : Prop := xs.Pairwise eLt
theorem ascE_nodup {xs : List (Str × Str)} (h : AscE xs) : xs.Nodup := by
  refine List.Pairwise.imp ?_ h
  intro a b z e
  subst e
  exact eLt_irrefl _ z
theorem ascE_of_sorted {xs : List (Str × Str)} (h : xs.Pairwise fun a b => ¬ eLt b a) (n : xs.Nodup) : AscE xs := by
  have z : xs.Pairwise fun a b => ¬ eLt b a ∧ a ≠ b := List.Pairwise.and h n
  exact z.imp fun {a b} q => eLt_total q.1 q.2

section
variable {K : PySem.W.Frag} {H : Hp} {Q : VK} {p : Addr}
theorem perm_of_map {α β : Type} {f : α → β} : ∀ {l : List β} {xs : List α}, l.Perm (xs.map f) → ∃ ys : List α, ys.Perm xs ∧ l = ys.map f := by
  intro l xs h
  generalize hm : xs.map f = m at h
  induction h generalizing xs with
  | nil =>
    cases xs with
    | nil => exact ⟨[], .nil, rfl⟩
    | cons _ _ => cases hm
  | cons x hp ih =>
    cases xs with
    | nil => cases hm
    | cons a as =>
      injection hm with h1 h2
      obtain ⟨ys, py, e⟩ := ih h2
      exact ⟨a :: ys, py.cons a, by rw [e, List.map_cons, h1]⟩
  | swap x y l =>
    cases xs with
    | nil => cases hm
    | cons a as =>
      cases as with
      | nil => cases hm
      | cons b bs =>
        injection hm with h1 h2
        injection h2 with h2 h3
        exact ⟨b :: a :: bs, .swap a b bs, by rw [List.map_cons, List.map_cons, h1, h2, h3]⟩
  | trans _ _ ih1 ih2 =>
    obtain ⟨ys, py, e⟩ := ih2 hm
    obtain ⟨zs, pz, e'⟩ := ih1 e.symm
    exact ⟨zs, pz.trans py, e'⟩
/-- sorted(a list of texts) -/
theorem rd_sortS {xs : List Str} (hs : SqL K H p (xs.map V.str)) (hl : xs.length ≤ 100000) (k : ∀ ys : List Str, ys.Perm xs → ys.Pairwise (fun a b => ¬ sLt b a) → nL (ys.map V.str) H Q) : rSortU K [.ref p] H Q := by
  refine ⟨xs.map fun x => (V.str x, PyData.str x), ?_, ⟨?_, ?_, ?_, ?_, ?_⟩, ?_⟩
  · rw [List.map_map]
    exact hs
  · intro b hb
    obtain ⟨x, _, rfl⟩ := List.mem_map.mp hb
    exact .str x
  · rw [List.map_map]
    exact PySem.W.AllAlike.of (enc := PyData.str) fun a b => by simp [PySem.W.alike]
  · rw [List.map_map]
    exact PySem.W.Sortable.others (enc := PyData.str) fun b => ⟨by simp, by simp⟩
  · intro b hb
    obtain ⟨x, _, rfl⟩ := List.mem_map.mp hb
    simp [PyData.depth]
  · rw [List.length_map]
    omega
  · intro cs pc sc
    obtain ⟨ys, py, rfl⟩ := perm_of_map pc
    rw [List.map_map]
    refine k ys py ?_
    rw [List.pairwise_map] at sc
    refine sc.imp fun {a b} z h => ?_
    have z' : PySem.W.dataLt (PyData.str b) (PyData.str a) = false := z
    rw [PySem.W.dataLt_str] at z'
    exact of_decide_eq_false z' h
/-- sorted(a list of pairs of texts): e is the pair's place, then the two -/
theorem rd_sortE {xs : List (Addr × Str × Str)} (hs : SqL K H p (xs.map fun e => V.ref e.1)) (ht : ∀ e ∈ xs, SqT K H e.1 [.str e.2.1, .str e.2.2]) (hl : xs.length ≤ 100000)
    (k : ∀ ys : List (Addr × Str × Str), ys.Perm xs → ys.Pairwise (fun a b => ¬ eLt b.2 a.2) → nL (ys.map fun e => V.ref e.1) H Q) : rSortU K [.ref p] H Q := by
  refine ⟨xs.map fun e => (V.ref e.1, PyData.tuple [.str e.2.1, .str e.2.2]), ?_, ⟨?_, ?_, ?_, ?_, ?_⟩, ?_⟩
  · rw [List.map_map]
    exact hs
  · intro b hb
    obtain ⟨x, hx, rfl⟩ := List.mem_map.mp hb
    exact .tup (ht x hx) (.cons (.str _) (.cons (.str _) .nil))
  · rw [List.map_map]
    exact PySem.W.AllAlike.of (enc := fun e : Addr × Str × Str => PyData.tuple [.str e.2.1, .str e.2.2]) fun a b => by simp [PySem.W.alike, PySem.W.alikeAll]
  · rw [List.map_map]
    exact PySem.W.Sortable.tuples (enc := fun e : Addr × Str × Str => PyData.tuple [.str e.2.1, .str e.2.2]) fun b => ⟨_, _, rfl⟩
  · intro b hb
    obtain ⟨x, _, rfl⟩ := List.mem_map.mp hb
    simp [PyData.depth, PyData.depthAll]
  · rw [List.length_map]
    omega
  · intro cs pc sc
    obtain ⟨ys, py, rfl⟩ := perm_of_map pc
    rw [List.map_map]
    refine k ys py ?_
    rw [List.pairwise_map] at sc
    refine sc.imp fun {a b} z h => ?_
    have z' : PySem.W.dataLt (PyData.tuple [.str b.2.1, .str b.2.2]) (PyData.tuple [.str a.2.1, .str a.2.2]) = false := z
    rw [PySem.W.dataLt_pair (by simp [PySem.W.alike]) (by simp [PySem.W.alike]), PySem.W.dataLt_str, PySem.W.dataLt_str] at z'
    simp only [PyData.eqv, beq_iff_eq] at z'
    rcases h with h | ⟨e, h⟩
    · have n : ¬ b.2.1 = a.2.1 := fun e => sLt_irrefl _ (by rw [e] at h; exact h)
      rw [if_neg n] at z'
      exact of_decide_eq_false z' h
    · rw [if_pos e] at z'
      have n : ¬ b.2.2 = a.2.2 := fun e => sLt_irrefl _ (by rw [e] at h; exact h)
      rw [if_neg n] at z'
      exact of_decide_eq_false z' h
end
end U

/-! names as the laws draw them -/
namespace U
open PySem PySem.Spec PyProof.Rows L2
/-- 1 to 8 small letters -/
structure IsName (z : Str) : Prop where
  lo : 1 ≤ z.length
  hi : z.length ≤ 8
  ch : ∀ c ∈ z.cps.toList, 97 ≤ c ∧ c ≤ 122
theorem letters_at {i : Int} (h0 : 0 ≤ i) (h1 : i < 26) : atI (Str.ofString "abcdefghijklmnopqrstuvwxyz").cps.toList i = some (97 + i.toNat) := by
  obtain ⟨n, rfl⟩ : ∃ n : Nat, i = (n : Int) := ⟨i.toNat, by omega⟩
  have all : ∀ n : Fin 26, (Str.ofString "abcdefghijklmnopqrstuvwxyz").cps.toList[(n : Nat)]? = some (97 + (n : Nat)) := by decide +kernel
  have hn : n < 26 := by omega
  rw [Int.toNat_natCast]
  exact atI_nat (all ⟨n, hn⟩)
theorem letters_len : (Str.ofString "abcdefghijklmnopqrstuvwxyz").length ≤ 100000 := by decide +kernel
theorem pick4 {a b c d r : Int} (h0 : 0 ≤ r) (h1 : r < 4) : ∃ v, atI [V.int a, .int b, .int c, .int d] r = some (.int v) ∧ (v = a ∨ v = b ∨ v = c ∨ v = d) := by
  have : r = 0 ∨ r = 1 ∨ r = 2 ∨ r = 3 := by omega
  rcases this with rfl | rfl | rfl | rfl
  · exact ⟨a, rfl, .inl rfl⟩
  · exact ⟨b, rfl, .inr (.inl rfl)⟩
  · exact ⟨c, rfl, .inr (.inr (.inl rfl))⟩
  · exact ⟨d, rfl, .inr (.inr (.inr rfl))⟩
/-- names, strictly upwards -/
structure Names (ys : List Str) : Prop where
  asc : Asc ys
  ok : ∀ y ∈ ys, IsName y
/-- names, each once, in any order -/
structure NamesU (ys : List Str) : Prop where
  nd : ys.Nodup
  ok : ∀ y ∈ ys, IsName y
theorem Names.u {ys : List Str} (h : Names ys) : NamesU ys := ⟨asc_nodup h.asc, h.ok⟩
theorem NamesU.perm {xs ys : List Str} (h : NamesU xs) (p : ys.Perm xs) : NamesU ys := ⟨p.nodup_iff.mpr h.nd, fun y hy => h.ok y (p.mem_iff.mp hy)⟩
/-! slices of a text -/
end U

/-! loops, dictionaries, unpacking: their readings by steps -/
namespace U
open PySem PySem.Spec PyProof.Rows L2
/-- what a loop over J asks -/
def ForB (J : It) (g : TG) (tb : TS) (D : Ends) (σ : L2.St) (H : Hp) : Prop := ∃ W : Nat → Nat → L2.St → Hp → Prop, (∃ m, W 0 m σ H) ∧ ∀ i m σ H, W i m σ H →
  (J.stop i H ∧ D.nx σ H) ∨ (J.go i H ∧ ∃ N : L2.St → Hp → Prop, (∀ σ' H', N σ' H' → ∃ m', m' < m ∧ W (i + 1) m' σ' H') ∧ ∀ x H', J.yld i H x H' → g x σ H' fun σ2 H2 => tb { D with nx := N, ct := N, bk := D.nx } σ2 H2)
def LcB (J : It) (g : TG) (tt : TT) (te : TE) (vs : List Nat) (σ : L2.St) (H1 : Hp) (D : Addr) (Qd : Hp → Prop) : Prop := ∃ W : Nat → Nat → Hp → Prop, (∃ m, W 0 m (upd H1 D (.lst []))) ∧ ∀ i m H, W i m H →
  (J.stop i H ∧ Qd H) ∨ (J.go i H ∧ ∃ Nx : Hp → Prop, (∀ H', Nx H' → ∃ m', m' < m ∧ W (i + 1) m' H') ∧ ∀ x H', J.yld i H x H' → g x (wipe σ vs) H' fun σ2 H2 => wipe σ2 vs = wipe σ vs ∧ tt σ2 H2 fun b H3 =>
    if b = true then te σ2 H3 fun y H4 => ∃ acc, H4 D = some (.lst acc) ∧ acc.length < sizeLine ∧ Nx (upd H4 D (.lst (acc ++ [y]))) else Nx H3)
section
variable {σ : L2.St} {H : Hp} {Q : VK} {D : Ends} {v x y : V} {i j : Int} {ta tb tc te td ty tv : TE} {t u : TS} {K : PySem.W.Frag} {g : TG} {wi : TI} {R : It → Hp → Prop} {tr : TA}
theorem rd_for (h : wi σ H fun J H1 => ForB J g t D σ H1) : tFor wi g t D σ H := h
theorem rd_rng1 (h : tr σ H fun vs H1 => ∃ j : Int, vs = [.int j] ∧ -(2 ^ 62) ≤ j ∧ j < 2 ^ 62 ∧ R (Itr 0 j.toNat) H1) : iRng1 tr σ H R := h
theorem rd_rng2 (h : tr σ H fun vs H1 => ∃ i j : Int, vs = [.int i, .int j] ∧ (-(2 ^ 62) ≤ i ∧ i < 2 ^ 62 ∧ -(2 ^ 62) ≤ j ∧ j < 2 ^ 62) ∧ R (Itr i (j - i).toNat) H1) : iRng2 tr σ H R := h
theorem rd_iList (h : te σ H fun x H1 => ∃ a, x = .ref a ∧ (∃ xs, SqL K H1 a xs) ∧ R (Itl K a) H1) : iList K te σ H R := h
theorem rd_iTup (h : te σ H fun x H1 => ∃ a, x = .ref a ∧ (∃ xs, SqT K H1 a xs) ∧ R (Itt K a) H1) : iTup K te σ H R := h
theorem rd_iEnum (h : tr σ H fun vs H1 => ∃ a xs, vs = [.ref a] ∧ SqL K H1 a xs ∧ R (Ite K a) H1) : iEnum K tr σ H R := h
theorem rd_forL {p : Addr} {xs : List V} {R : Addr → Prop} (hs : SqL K H p xs) (h : R p) : ∃ a, V.ref p = .ref a ∧ (∃ xs, SqL K H a xs) ∧ R a := ⟨p, rfl, ⟨xs, hs⟩, h⟩
theorem rd_forT {p : Addr} {xs : List V} {R : Addr → Prop} (hs : SqT K H p xs) (h : R p) : ∃ a, V.ref p = .ref a ∧ (∃ xs, SqT K H a xs) ∧ R a := ⟨p, rfl, ⟨xs, hs⟩, h⟩
theorem rd_forR {R : Int → Prop} (h0 : -(2 ^ 62) ≤ j) (h1 : j < 2 ^ 62) (h : R j) : ∃ k : Int, [V.int j] = [.int k] ∧ -(2 ^ 62) ≤ k ∧ k < 2 ^ 62 ∧ R k := ⟨j, rfl, h0, h1, h⟩
theorem rd_forE {p : Addr} {xs : List V} {R : Addr → Prop} (hs : SqL K H p xs) (h : R p) : ∃ a xs, [V.ref p] = [.ref a] ∧ SqL K H a xs ∧ R a := ⟨p, xs, rfl, hs, h⟩
theorem turnsR {lo : Int} {n : Nat} (Pv : Nat → L2.St → Hp → Prop) (h0 : Pv 0 σ H) (hs : ∀ i σ H, i < n → Pv i σ H → g (.int (lo + i)) σ H fun σ2 H2 => t { D with nx := Pv (i + 1), ct := Pv (i + 1), bk := D.nx } σ2 H2)
    (hd : ∀ σ H, Pv n σ H → D.nx σ H) : ForB (Itr lo n) g t D σ H := for_range Pv h0 hs hd
theorem turnsL {a : Addr} {xs : List V} (Pv : Nat → L2.St → Hp → Prop) (h0 : Pv 0 σ H) (hl : ∀ i σ H, i ≤ xs.length → Pv i σ H → SqL K H a xs)
    (hs : ∀ i x σ H, xs[i]? = some x → Pv i σ H → g x σ H fun σ2 H2 => t { D with nx := Pv (i + 1), ct := Pv (i + 1), bk := D.nx } σ2 H2) (hd : ∀ σ H, Pv xs.length σ H → D.nx σ H) : ForB (Itl K a) g t D σ H := for_list Pv h0 hl hs hd
theorem turnsT {a : Addr} {xs : List V} (Pv : Nat → L2.St → Hp → Prop) (h0 : Pv 0 σ H) (hl : ∀ i σ H, i ≤ xs.length → Pv i σ H → SqT K H a xs)
    (hs : ∀ i x σ H, xs[i]? = some x → Pv i σ H → g x σ H fun σ2 H2 => t { D with nx := Pv (i + 1), ct := Pv (i + 1), bk := D.nx } σ2 H2) (hd : ∀ σ H, Pv xs.length σ H → D.nx σ H) : ForB (Itt K a) g t D σ H := for_tup Pv h0 hl hs hd
theorem turnsW {J : It} {n : Nat} {G : Hp → Prop} {Y : Nat → Hp → V → Hp → Prop} (w : Walk J n G Y) (Pv : Nat → L2.St → Hp → Prop) (h0 : Pv 0 σ H) (hG : ∀ i σ H, i ≤ n → Pv i σ H → G H)
    (hs : ∀ i x σ H H', i < n → Pv i σ H → Y i H x H' → g x σ H' fun σ2 H2 => t { D with nx := Pv (i + 1), ct := Pv (i + 1), bk := D.nx } σ2 H2) (hd : ∀ σ H, Pv n σ H → D.nx σ H) : ForB J g t D σ H := for_it w Pv h0 hG hs hd
theorem rd_lc {tt : TT} {vs : List Nat} (h : wi σ H fun J H1 => ∀ D, H1 D = none → LcB J g tt te vs σ H1 D fun H2 => Q (.ref D) H2) : tLc wi g tt te vs σ H Q := h
theorem lcT {a : Addr} {xs : List V} {tt : TT} {vs : List Nat} {D : Addr} {Qd : Hp → Prop} (Pv : Nat → Hp → Prop) (h0 : Pv 0 (upd H D (.lst []))) (hl : ∀ i H, i ≤ xs.length → Pv i H → SqT K H a xs)
    (hs : ∀ i x H, xs[i]? = some x → Pv i H → g x (wipe σ vs) H fun σ2 H2 => wipe σ2 vs = wipe σ vs ∧ tt σ2 H2 fun b H3 =>
      if b = true then te σ2 H3 fun y H4 => ∃ acc, H4 D = some (.lst acc) ∧ acc.length < sizeLine ∧ Pv (i + 1) (upd H4 D (.lst (acc ++ [y]))) else Pv (i + 1) H3) (hd : ∀ H, Pv xs.length H → Qd H) : LcB (Itt K a) g tt te vs σ H D Qd := lc_tup Pv h0 hl hs hd
theorem lcL {a : Addr} {xs : List V} {tt : TT} {vs : List Nat} {D : Addr} {Qd : Hp → Prop} (Pv : Nat → Hp → Prop) (h0 : Pv 0 (upd H D (.lst []))) (hl : ∀ i H, i ≤ xs.length → Pv i H → SqL K H a xs)
    (hs : ∀ i x H, xs[i]? = some x → Pv i H → g x (wipe σ vs) H fun σ2 H2 => wipe σ2 vs = wipe σ vs ∧ tt σ2 H2 fun b H3 =>
      if b = true then te σ2 H3 fun y H4 => ∃ acc, H4 D = some (.lst acc) ∧ acc.length < sizeLine ∧ Pv (i + 1) (upd H4 D (.lst (acc ++ [y]))) else Pv (i + 1) H3) (hd : ∀ H, Pv xs.length H → Qd H) : LcB (Itl K a) g tt te vs σ H D Qd := lc_list Pv h0 hl hs hd
theorem lcR {lo : Int} {n : Nat} {tt : TT} {vs : List Nat} {D : Addr} {Qd : Hp → Prop} (Pv : Nat → Hp → Prop) (h0 : Pv 0 (upd H D (.lst [])))
    (hs : ∀ i H, i < n → Pv i H → g (.int (lo + i)) (wipe σ vs) H fun σ2 H2 => wipe σ2 vs = wipe σ vs ∧ tt σ2 H2 fun b H3 =>
      if b = true then te σ2 H3 fun y H4 => ∃ acc, H4 D = some (.lst acc) ∧ acc.length < sizeLine ∧ Pv (i + 1) (upd H4 D (.lst (acc ++ [y]))) else Pv (i + 1) H3) (hd : ∀ H, Pv n H → Qd H) : LcB (Itr lo n) g tt te vs σ H D Qd := lc_range Pv h0 hs hd
/-- unpacking -/
theorem rd_unp {n : Nat} {ts : TGs} {p : Addr} {xs : List V} {Q : L2.St → Hp → Prop} (hs : SqT K H p xs) (hl : xs.length = n) (h : ts xs σ H Q) : gTup K n ts (.ref p) σ H Q := ⟨p, xs, rfl, hs, hl, h⟩
theorem rd_gcons {tg : TG} {u : TGs} {vr : List V} {Q : L2.St → Hp → Prop} (h : tg v σ H fun σ1 H1 => u vr σ1 H1 Q) : gCons tg u (v :: vr) σ H Q := ⟨v, vr, rfl, h⟩
theorem rd_gnil {Q : L2.St → Hp → Prop} (h : Q σ H) : gNil [] σ H Q := ⟨rfl, h⟩
/-- dictionaries -/
theorem rd_dget (h : td σ H fun x H1 => ty σ H1 fun y H2 => ∃ a v, x = .ref a ∧ DGet H2 a y (some v) ∧ Q v H2) : tDGet td ty σ H Q := h
theorem rd_dat {p : Addr} {kvs : List (Key × V)} {k : Key} (hs : Rd H p (.dK kvs)) (hv : valV kvs k = some v) {R : V → Prop} (hy : y = kV k) (h : R v) : ∃ a v, V.ref p = .ref a ∧ DGet H a y (some v) ∧ R v := ⟨p, v, rfl, .inl ⟨kvs, k, hs, hy, hv.symm⟩, h⟩
theorem rd_dput (h : tv σ H fun v H1 => td σ H1 fun x H2 => ty σ H2 fun y H3 => ∃ a H4, x = .ref a ∧ DPut H3 a y v H4 ∧ D.nx σ H4) : sDPut td ty tv D σ H := h
end
end U

/-! lists of texts as data -/
namespace U
open PySem PySem.Spec PyProof.Rows L2
theorem IsName.sok {z : Str} (h : IsName z) : PyData.strOk z = true := by
  unfold PyData.strOk
  rw [Array.all_eq_true_iff_forall_mem]
  intro x hx
  have := h.ch x (by simpa using hx)
  rw [decide_eq_true_eq]
  omega
section
variable {K : PySem.W.Frag} {H : Hp} {Q : VK} {p q : Addr}
theorem dp_strs : ∀ (xs : List Str), DpAll K H (xs.map V.str) (xs.map PyData.str)
  | [] => .nil
  | x :: xs => .cons (.str x) (dp_strs xs)
theorem can_strs : ∀ {xs : List Str}, (∀ x ∈ xs, PyData.strOk x = true) → PyData.canLayAll0 (xs.map PyData.str) = true
  | [], _ => by simp [PyData.canLayAll0]
  | x :: xs, h => by
    rw [List.map_cons, PyData.canLayAll0, PyData.canLay0, h x List.mem_cons_self, can_strs fun y hy => h y (List.mem_cons_of_mem _ hy)]
    rfl
theorem dep_strs : ∀ {xs : List Str}, PyData.depthAll (xs.map PyData.str) = 0
  | [] => by simp [PyData.depthAll]
  | x :: xs => by
    rw [List.map_cons, PyData.depthAll, dep_strs, PyData.depth]
    rfl
theorem shp_strs {xs : List Str} (h : ∀ x ∈ xs, PyData.strOk x = true) : SeqAt.shaped (.list (xs.map PyData.str)) = true := by
  unfold SeqAt.shaped
  rw [PyData.canLay0, can_strs h, PyData.depth, dep_strs]
  rfl
theorem eqv_nil {xs : List Str} : PyData.eqv (.list (xs.map PyData.str)) (.list []) = xs.isEmpty := by
  cases xs with
  | nil => simp [PyData.eqv, PyData.eqvAll]
  | cons _ _ => simp [PyData.eqv, PyData.eqvAll]
/-- xs != [] -/
theorem rd_neNil {xs : List Str} (hp : SqL K H p (xs.map V.str)) (hq : SqL K H q []) (ok : ∀ x ∈ xs, PyData.strOk x = true) (h : Q (.bl (!xs.isEmpty)) H) : rNeU K (.ref p) (.ref q) H Q := by
  refine ⟨_, _, .lst hp (dp_strs xs), .lst hq .nil, shp_strs ok, by decide, ?_⟩
  rw [eqv_nil]
  exact h
end
end U

/-! graphs and states as the laws draw them -/
namespace U
open PySem PySem.Spec PyProof.Rows L2
/-- the two names, the lower first -/
def eOf (a b : Str) : Str × Str := if sLt a b then (a, b) else (b, a)
theorem eOf_cases (a b : Str) : eOf a b = (a, b) ∨ eOf a b = (b, a) := by
  unfold eOf
  split
  · exact .inl rfl
  · exact .inr rfl
theorem eOf_lt {a b : Str} (n : a ≠ b) : sLt (eOf a b).1 (eOf a b).2 := by
  unfold eOf
  split
  · assumption
  · rename_i h
    exact sLt_total h (Ne.symm n)
theorem eOf_inj {a b c d : Str} (h : eOf a b = eOf c d) : (a = c ∧ b = d) ∨ (a = d ∧ b = c) := by
  rcases eOf_cases a b with e | e <;> rcases eOf_cases c d with e' | e' <;> rw [e, e'] at h <;> injection h with h1 h2
  · exact .inl ⟨h1, h2⟩
  · exact .inr ⟨h1, h2⟩
  · exact .inr ⟨h2, h1⟩
  · exact .inl ⟨h2, h1⟩
/-- the state's pairs -/
abbrev kvsOf (ws : List (Str × Int)) : List (Key × V) := ws.map fun p => (Sum.inr p.1, V.int p.2)
/-- the number of the node n -/
def numOf (ws : List (Str × Int)) (n : Str) : Int := (ws.lookup n).getD 0
theorem val_kvs : ∀ {ws : List (Str × Int)} {n : Str}, n ∈ ws.map (·.1) → valV (kvsOf ws) (.inr n) = some (.int (numOf ws n))
  | p :: ws, n, h => by
    by_cases e : n = p.1
    · subst e
      rw [kvsOf, List.map_cons, valV_pos rfl]
      unfold numOf
      rw [List.lookup_cons_self]
      rfl
    · have e' : ¬ (Sum.inr p.1 : Key) = Sum.inr n := fun z => e (Sum.inr.inj z).symm
      rw [kvsOf, List.map_cons, valV_neg e']
      have : n ∈ ws.map (·.1) := by
        rcases List.mem_cons.mp h with z | z
        · exact absurd z e
        · exact z
      have r := val_kvs this
      rw [kvsOf] at r
      rw [r]
      unfold numOf
      rw [List.lookup_cons, show (n == p.1) = false from beq_eq_false_iff_ne.mpr e]
theorem num_mem : ∀ {ws : List (Str × Int)} {n : Str}, n ∈ ws.map (·.1) → (n, numOf ws n) ∈ ws
  | p :: ws, n, h => by
    unfold numOf
    rw [List.lookup_cons]
    by_cases e : n = p.1
    · rw [show (n == p.1) = true from beq_iff_eq.mpr e]
      subst e
      exact List.mem_cons_self
    · rw [show (n == p.1) = false from beq_eq_false_iff_ne.mpr e]
      have : n ∈ ws.map (·.1) := by
        rcases List.mem_cons.mp h with z | z
        · exact absurd z e
        · exact z
      exact List.mem_cons_of_mem _ (num_mem this)
/-- a state: each name once, in the order ord, a number of 0, 1, 2 -/
structure StOk (ord : List Str) (ws : List (Str × Int)) : Prop where
  key : ws.map (·.1) = ord
  num : ∀ p ∈ ws, 0 ≤ p.2 ∧ p.2 < 3
theorem StOk.at {ord : List Str} {ws : List (Str × Int)} (h : StOk ord ws) {n : Str} (hn : n ∈ ord) : 0 ≤ numOf ws n ∧ numOf ws n < 3 := h.num _ (num_mem (by rw [h.key]; exact hn))
theorem StOk.val {ord : List Str} {ws : List (Str × Int)} (h : StOk ord ws) {n : Str} (hn : n ∈ ord) : valV (kvsOf ws) (.inr n) = some (.int (numOf ws n)) := val_kvs (by rw [h.key]; exact hn)
/-- the edges as they are found: at turn i, j -/
structure EdgesIn (ord : List Str) (f : Str → Int) (i j : Nat) (es : List (Addr × Str × Str)) : Prop where
  nd : (es.map (·.2)).Nodup
  of : ∀ e ∈ es, ∃ i' j', ∃ (hi : i' < ord.length) (hj : j' < ord.length), j' < i' ∧ (i' < i ∨ (i' = i ∧ j' < j)) ∧ e.2 = eOf ord[i'] ord[j'] ∧ f ord[i'] ≠ f ord[j']
theorem EdgesIn.step {ord : List Str} {f : Str → Int} {i j i2 j2 : Nat} {es : List (Addr × Str × Str)} (h : EdgesIn ord f i j es) (c : i < i2 ∨ (i = i2 ∧ j ≤ j2)) : EdgesIn ord f i2 j2 es :=
  ⟨h.nd, fun e he => by
    obtain ⟨i', j', hi, hj, h1, h2, h3⟩ := h.of e he
    exact ⟨i', j', hi, hj, h1, by omega, h3⟩⟩
theorem EdgesIn.add {ord : List Str} {f : Str → Int} {i j : Nat} {es : List (Addr × Str × Str)} {t : Addr} (h : EdgesIn ord f i j es) (nd : ord.Nodup) (hij : j < i) (hi : i < ord.length) (hj : j < ord.length) (hf : f ord[i] ≠ f ord[j]) :
    EdgesIn ord f i (j + 1) (es ++ [(t, eOf ord[i] ord[j])]) := by
  have inj : ∀ {a b : Nat} (ha : a < ord.length) (hb : b < ord.length), ord[a] = ord[b] → a = b := by
    intro a b ha hb e
    have z := List.pairwise_iff_getElem.mp (List.nodup_iff_pairwise_ne.mp nd)
    rcases Nat.lt_trichotomy a b with h | h | h
    · exact absurd e (z a b ha hb h)
    · exact h
    · exact absurd e.symm (z b a hb ha h)
  refine ⟨?_, ?_⟩
  · rw [List.map_append, List.nodup_append]
    refine ⟨h.nd, by simp, ?_⟩
    intro x hx y hy e
    obtain ⟨z, hz, rfl⟩ := List.mem_map.mp hx
    have : y = eOf ord[i] ord[j] := by simpa using hy
    subst this
    obtain ⟨i', j', hi', hj', h1, h2, h3, _⟩ := h.of z hz
    rw [h3] at e
    rcases eOf_inj e with ⟨e1, e2⟩ | ⟨e1, e2⟩
    · have := inj _ _ e1
      have := inj _ _ e2
      omega
    · have := inj _ _ e1
      have := inj _ _ e2
      omega
  · intro e he
    rcases List.mem_append.mp he with he | he
    · obtain ⟨i', j', hi', hj', h1, h2, h3⟩ := h.of e he
      exact ⟨i', j', hi', hj', h1, by omega, h3⟩
    · have : e = (t, eOf ord[i] ord[j]) := by simpa using he
      subst this
      exact ⟨i, j, hi, hj, hij, by omega, rfl, hf⟩
/-- a graph: names upwards, edges upwards, each with its lower name first -/
structure GrOk (ns : List Str) (es : List (Str × Str)) : Prop where
  names : Names ns
  asc : AscE es
  lt : ∀ e ∈ es, sLt e.1 e.2
  mem : ∀ e ∈ es, e.1 ∈ ns ∧ e.2 ∈ ns
/-- the graph stands at g -/
structure GrAt (H : Hp) (g n e : Addr) (ns : List Str) (es : List (Addr × Str × Str)) : Prop where
  top : H g = some (.tup [.ref n, .ref e])
  nodes : H n = some (.tup (ns.map V.str))
  edges : H e = some (.tup (es.map fun x => V.ref x.1))
  pairs : ∀ x ∈ es, H x.1 = some (.tup [.str x.2.1, .str x.2.2])
theorem map_at {α : Type} {f : α → V} {xs : List α} {i : Nat} {x : V} (h : (xs.map f)[i]? = some x) : ∃ hi : i < xs.length, x = f xs[i] := by
  rw [List.getElem?_map] at h
  by_cases hi : i < xs.length
  · rw [List.getElem?_eq_getElem hi] at h
    exact ⟨hi, (Option.some.inj h).symm⟩
  · rw [List.getElem?_eq_none (by omega)] at h
    cases h
theorem StOk.nil : StOk [] [] := ⟨rfl, fun _ h => nomatch h⟩
theorem StOk.add {ord : List Str} {ws : List (Str × Int)} {i : Nat} {v : Int} (h : StOk (ord.take i) ws) (hi : i < ord.length) (h0 : 0 ≤ v) (h1 : v < 3) : StOk (ord.take (i + 1)) (ws ++ [(ord[i], v)]) := by
  refine ⟨?_, ?_⟩
  · rw [List.map_append, h.key, List.take_succ, List.getElem?_eq_getElem hi]
    rfl
  · intro p hp
    rcases List.mem_append.mp hp with hp | hp
    · exact h.num p hp
    · have : p = (ord[i], v) := by simpa using hp
      subst this
      exact ⟨h0, h1⟩
theorem StOk.not {ord : List Str} {ws : List (Str × Int)} {i : Nat} (h : StOk (ord.take i) ws) (nd : ord.Nodup) (hi : i < ord.length) : ord[i] ∉ ws.map (·.1) := by
  rw [h.key]
  intro hm
  obtain ⟨j, hj, e⟩ := List.mem_iff_getElem.mp hm
  rw [List.length_take] at hj
  have e' : ord[j] = ord[i] := by rw [← e, List.getElem_take]
  have z := List.pairwise_iff_getElem.mp (List.nodup_iff_pairwise_ne.mp nd)
  exact z j i (by omega) hi (by omega) e'
theorem eOf_pair {a b : Str} : (if sLt a b then [V.str a, V.str b] else [V.str b, V.str a]) = [V.str (eOf a b).1, V.str (eOf a b).2] := by
  unfold eOf
  split <;> rfl
section
variable {K : PySem.W.Frag} {H : Hp} {Q : VK} {p q : Addr} {σ : L2.St}
theorem rd_dnew (h : ∀ d, H d = none → Q (.ref d) (upd H d (.dK []))) : tDNewK σ H Q := h
theorem rd_dset {kvs : List (Key × V)} {k : Key} {y v : V} {R : Hp → Prop} (hs : H p = some (.dK kvs)) (hy : y = kV k) (hl : kvs.length < 100000) (h : R (upd H p (.dK (putK kvs k v)))) :
    ∃ a H4, V.ref p = .ref a ∧ DPut H a y v H4 ∧ R H4 := ⟨p, _, rfl, .inl ⟨kvs, k, hs, hy, Nat.lt_of_lt_of_le hl (by decide), rfl⟩, h⟩
end
end U

/-! lifts: the plain laws -/
namespace U
open PySem PySem.Spec PyProof.Rows L2
/-- the dict of numbers over ns, in that order -/
abbrev kvF (ns : List Str) (f : Str → Int) : List (Key × V) := ns.map fun n => (Sum.inr n, V.int (f n))
def updf (f : Str → Int) (n : Str) (v : Int) : Str → Int := fun m => if m = n then v else f m
theorem kvF_congr {ns : List Str} {f g : Str → Int} (h : ∀ n ∈ ns, f n = g n) : kvF ns f = kvF ns g := List.map_congr_left fun n hn => by rw [h n hn]
theorem kvF_val : ∀ {ns : List Str} {f : Str → Int} {n : Str}, n ∈ ns → valV (kvF ns f) (.inr n) = some (.int (f n))
  | m :: ns, f, n, h => by
    by_cases e : n = m
    · subst e
      rw [kvF, List.map_cons, valV_pos rfl]
    · have e' : ¬ (Sum.inr m : Key) = Sum.inr n := fun z => e (Sum.inr.inj z).symm
      rw [kvF, List.map_cons, valV_neg e']
      refine kvF_val ?_
      rcases List.mem_cons.mp h with z | z
      · exact absurd z e
      · exact z
theorem kvF_none : ∀ {ns : List Str} {f : Str → Int} {n : Str}, n ∉ ns → valV (kvF ns f) (.inr n) = none
  | [], _, _, _ => rfl
  | m :: ns, f, n, h => by
    have e' : ¬ (Sum.inr m : Key) = Sum.inr n := fun z => h (by rw [← Sum.inr.inj z]; exact List.mem_cons_self)
    rw [kvF, List.map_cons, valV_neg e']
    exact kvF_none fun z => h (List.mem_cons_of_mem _ z)
theorem kvF_put {ns : List Str} {f : Str → Int} {n : Str} {v : Int} (h : n ∈ ns) : putK (kvF ns f) (.inr n) (.int v) = kvF ns (updf f n v) := by
  unfold putK
  rw [if_pos]
  · rw [kvF, kvF, List.map_map]
    refine List.map_congr_left fun m _ => ?_
    show (if (Sum.inr m : Key) = Sum.inr n then ((Sum.inr m : Key), V.int v) else (Sum.inr m, V.int (f m))) = (Sum.inr m, V.int (updf f n v m))
    unfold updf
    by_cases e : m = n
    · rw [if_pos (by rw [e]), if_pos e]
    · rw [if_neg (fun z => e (Sum.inr.inj z)), if_neg e]
  · rw [valV_any, kvF_val h]
    rfl
theorem kvF_new {ns : List Str} {f : Str → Int} {n : Str} {v : Int} (h : n ∉ ns) : putK (kvF ns f) (.inr n) (.int v) = kvF (ns ++ [n]) (updf f n v) := by
  rw [putK_new _ (kvF_none h), kvF, kvF, List.map_append]
  congr 1
  · refine List.map_congr_left fun m hm => ?_
    unfold updf
    rw [if_neg (fun e => h (by rw [← e]; exact hm))]
  · show [((Sum.inr n : Key), V.int v)] = [(Sum.inr n, V.int (updf f n v n))]
    unfold updf
    rw [if_pos rfl]
/-! ### neighbours, moves -/
def nbrF (es : List (Str × Str)) (x : Str) : List Str := es.flatMap fun e => (if e.1 = x then [e.2] else []) ++ (if e.2 = x then [e.1] else [])
theorem mem_nbrF {es : List (Str × Str)} {x z : Str} : z ∈ nbrF es x ↔ (x, z) ∈ es ∨ (z, x) ∈ es := by
  unfold nbrF
  rw [List.mem_flatMap]
  constructor
  · rintro ⟨e, he, h⟩
    rcases List.mem_append.mp h with h | h
    · split at h
      · rename_i c
        have : z = e.2 := by simpa using h
        subst this
        subst c
        exact .inl he
      · cases h
    · split at h
      · rename_i c
        have : z = e.1 := by simpa using h
        subst this
        subst c
        exact .inr he
      · cases h
  · rintro (h | h)
    · exact ⟨_, h, by simp⟩
    · exact ⟨_, h, by simp⟩
def freeB (es : List (Str × Str)) (f : Str → Int) (n : Str) (v : Int) : Bool := !decide (v ∈ (nbrF es n).map f ++ [f n])
def movesOf (es : List (Str × Str)) (f : Str → Int) (n : Str) : List (Str × Int) := (([0, 1, 2] : List Int).filter (freeB es f n)).map fun v => (n, v)
def movesF (ns : List Str) (es : List (Str × Str)) (f : Str → Int) (ps : List Str) : List (Str × Int) := ns.flatMap fun n => if n ∈ ps then [] else movesOf es f n
structure Legal (ns : List Str) (es : List (Str × Str)) (f : Str → Int) (ps : List Str) (m : Str × Int) : Prop where
  mem : m.1 ∈ ns
  pin : m.1 ∉ ps
  val : 0 ≤ m.2 ∧ m.2 < 3
  own : m.2 ≠ f m.1
  nbr : ∀ z, (m.1, z) ∈ es ∨ (z, m.1) ∈ es → m.2 ≠ f z
theorem legal_of {ns : List Str} {es : List (Str × Str)} {f : Str → Int} {ps : List Str} {m : Str × Int} (h : m ∈ movesF ns es f ps) : Legal ns es f ps m := by
  unfold movesF at h
  obtain ⟨n, hn, h⟩ := List.mem_flatMap.mp h
  split at h
  · cases h
  · rename_i hp
    unfold movesOf at h
    obtain ⟨v, hv, rfl⟩ := List.mem_map.mp h
    obtain ⟨h1, h2⟩ := List.mem_filter.mp hv
    unfold freeB at h2
    have h2 : v ∉ (nbrF es n).map f ++ [f n] := by simpa using h2
    have h3 : v = 0 ∨ v = 1 ∨ v = 2 := by simpa using h1
    refine ⟨hn, hp, by show 0 ≤ v ∧ v < 3; omega, fun e => h2 (List.mem_append_right _ (by rw [show v = f n from e]; exact List.mem_singleton_self _)), fun z hz e => h2 (List.mem_append_left _ ?_)⟩
    rw [show v = f z from e]
    exact List.mem_map_of_mem (mem_nbrF.mpr hz)
/-- one move after another -/
inductive Plays (ns : List Str) (es : List (Str × Str)) (ps : List Str) (f : Str → Int) : List (Str × Int) → (Str → Int) → Prop
  | nil : Plays ns es ps f [] f
  | snoc {ms : List (Str × Int)} {f' : Str → Int} {m : Str × Int} : Plays ns es ps f ms f' → Legal ns es f' ps m → Plays ns es ps f (ms ++ [m]) (updf f' m.1 m.2)
/-! ### counting -/
def dlt (d : Int) : Int := if d % 3 = 0 then 0 else if d % 3 = 1 then 1 else -1
def slp (f : Str → Int) (a b : Str) : Int := if (f b - f a) % 3 = 1 then 1 else -1
/-- the state and the numbers behind the moves -/
def countF (f h : Str → Int) : List (Str × Int) → (Str → Int) × (Str → Int)
  | [] => (f, h)
  | (n, v) :: r => countF (updf f n v) (updf h n (h n + dlt (f n - v))) r
theorem countF_snoc {n : Str} {v : Int} : ∀ {ms : List (Str × Int)} {f h : Str → Int}, countF f h (ms ++ [(n, v)]) = (updf (countF f h ms).1 n v, updf (countF f h ms).2 n ((countF f h ms).2 n + dlt ((countF f h ms).1 n - v)))
  | [], _, _ => rfl
  | (m, w) :: ms, _, _ => by
    rw [List.cons_append, countF, countF_snoc, countF]
structure EsOk (ns : List Str) (es : List (Str × Str)) (f : Str → Int) : Prop where
  ne : ∀ e ∈ es, e.1 ≠ e.2
  mem : ∀ e ∈ es, e.1 ∈ ns ∧ e.2 ∈ ns
  tri : ∀ n ∈ ns, 0 ≤ f n ∧ f n < 3
  pro : ∀ e ∈ es, f e.1 ≠ f e.2
theorem slp_pm (f : Str → Int) (a b : Str) : slp f a b = 1 ∨ slp f a b = -1 := by
  unfold slp
  split
  · exact .inl rfl
  · exact .inr rfl
theorem move_keeps {ns : List Str} {es : List (Str × Str)} {ps : List Str} {f0 f h : Str → Int} {m : Str × Int} (ok : EsOk ns es f) (l : Legal ns es f ps m) (t : ∀ e ∈ es, slp f0 e.1 e.2 - slp f e.1 e.2 = 2 * (h e.1 - h e.2)) :
    EsOk ns es (updf f m.1 m.2) ∧ ∀ e ∈ es, slp f0 e.1 e.2 - slp (updf f m.1 m.2) e.1 e.2 = 2 * (updf h m.1 (h m.1 + dlt (f m.1 - m.2)) e.1 - updf h m.1 (h m.1 + dlt (f m.1 - m.2)) e.2) := by
  obtain ⟨n, v⟩ := m
  have hv := l.val
  have ho := l.own
  have hm := l.mem
  simp only at hv ho hm
  refine ⟨⟨ok.ne, ok.mem, fun x hx => ?_, fun e he => ?_⟩, fun e he => ?_⟩
  · show 0 ≤ updf f n v x ∧ updf f n v x < 3
    unfold updf
    split
    · exact hv
    · exact ok.tri x hx
  · show updf f n v e.1 ≠ updf f n v e.2
    have hne := ok.ne e he
    have hp := ok.pro e he
    unfold updf
    by_cases h1 : e.1 = n
    · rw [if_pos h1, if_neg (fun z => hne (h1.trans z.symm))]
      exact l.nbr e.2 (.inl (by show (n, e.2) ∈ es; rw [← h1]; exact he))
    · by_cases h2 : e.2 = n
      · rw [if_neg h1, if_pos h2]
        exact Ne.symm (l.nbr e.1 (.inr (by show (e.1, n) ∈ es; rw [← h2]; exact he)))
      · rw [if_neg h1, if_neg h2]
        exact hp
  · show slp f0 e.1 e.2 - slp (updf f n v) e.1 e.2 = 2 * (updf h n (h n + dlt (f n - v)) e.1 - updf h n (h n + dlt (f n - v)) e.2)
    have hne := ok.ne e he
    have hp := ok.pro e he
    have t1 := ok.tri e.1 (ok.mem e he).1
    have t2 := ok.tri e.2 (ok.mem e he).2
    have te := t e he
    by_cases h1 : e.1 = n
    · have h2 : ¬ e.2 = n := fun z => hne (h1.trans z.symm)
      have nb := l.nbr e.2 (.inl (by show (n, e.2) ∈ es; rw [← h1]; exact he))
      simp only at nb
      have e1 : updf f n v e.1 = v := if_pos h1
      have e2 : updf f n v e.2 = f e.2 := if_neg h2
      have e3 : updf h n (h n + dlt (f n - v)) e.1 = h e.1 + dlt (f e.1 - v) := by rw [h1]; exact if_pos rfl
      have e4 : updf h n (h n + dlt (f n - v)) e.2 = h e.2 := if_neg h2
      rw [e3, e4]
      rw [← h1] at ho
      unfold slp dlt at *
      rw [e1, e2]
      generalize f e.1 = x at *
      generalize f e.2 = y at *
      generalize h e.1 = hx at *
      generalize h e.2 = hy at *
      generalize (if (f0 e.2 - f0 e.1) % 3 = 1 then (1 : Int) else -1) = s0 at *
      have : hx - hy + hx - hy = 2 * (hx - hy) := by omega
      split at te <;> split <;> split <;> try split
      all_goals omega
    · by_cases h2 : e.2 = n
      · have nb := l.nbr e.1 (.inr (by show (e.1, n) ∈ es; rw [← h2]; exact he))
        simp only at nb
        have e1 : updf f n v e.1 = f e.1 := if_neg h1
        have e2 : updf f n v e.2 = v := if_pos h2
        have e3 : updf h n (h n + dlt (f n - v)) e.1 = h e.1 := if_neg h1
        have e4 : updf h n (h n + dlt (f n - v)) e.2 = h e.2 + dlt (f e.2 - v) := by rw [h2]; exact if_pos rfl
        rw [e3, e4]
        rw [← h2] at ho
        unfold slp dlt at *
        rw [e1, e2]
        generalize f e.1 = x at *
        generalize f e.2 = y at *
        generalize h e.1 = hx at *
        generalize h e.2 = hy at *
        generalize (if (f0 e.2 - f0 e.1) % 3 = 1 then (1 : Int) else -1) = s0 at *
        split at te <;> split <;> split <;> try split
        all_goals omega
      · have e1 : updf f n v e.1 = f e.1 := if_neg h1
        have e2 : updf f n v e.2 = f e.2 := if_neg h2
        have e3 : updf h n (h n + dlt (f n - v)) e.1 = h e.1 := if_neg h1
        have e4 : updf h n (h n + dlt (f n - v)) e.2 = h e.2 := if_neg h2
        rw [e3, e4, ← te]
        unfold slp
        rw [e1, e2]
theorem plays_ok {ns : List Str} {es : List (Str × Str)} {ps : List Str} {f0 : Str → Int} (ok : EsOk ns es f0) {ms : List (Str × Int)} {f : Str → Int} (p : Plays ns es ps f0 ms f) :
    (countF f0 (fun _ => 0) ms).1 = f ∧ EsOk ns es f ∧ ∀ e ∈ es, slp f0 e.1 e.2 - slp f e.1 e.2 = 2 * ((countF f0 (fun _ => 0) ms).2 e.1 - (countF f0 (fun _ => 0) ms).2 e.2) := by
  induction p with
  | nil => exact ⟨rfl, ok, fun e _ => by show slp f0 e.1 e.2 - slp f0 e.1 e.2 = 2 * ((0 : Int) - 0); omega⟩
  | @snoc ms f' m p l ih =>
    obtain ⟨i1, i2, i3⟩ := ih
    obtain ⟨n, v⟩ := m
    rw [countF_snoc, i1]
    obtain ⟨k1, k2⟩ := move_keeps i2 l i3
    exact ⟨rfl, k1, k2⟩
/-! ### fitting -/
def fitB (f h : Str → Int) (a b : Str) : Bool := if slp f a b = 1 then decide (0 ≤ h a - h b) && decide (h a - h b ≤ 1) else decide (0 ≤ h b - h a) && decide (h b - h a ≤ 1)
def Fits (es : List (Str × Str)) (f h : Str → Int) : Prop := ∀ e ∈ es, fitB f h e.1 e.2 = true
theorem fit_iff {f h : Str → Int} {a b : Str} : fitB f h a b = true ↔ (if slp f a b = 1 then 0 ≤ h a - h b ∧ h a - h b ≤ 1 else 0 ≤ h b - h a ∧ h b - h a ≤ 1) := by
  unfold fitB
  split <;> simp
theorem fits_count {ns : List Str} {es : List (Str × Str)} {ps : List Str} {f0 : Str → Int} (ok : EsOk ns es f0) {ms : List (Str × Int)} {f : Str → Int} (p : Plays ns es ps f0 ms f) : Fits es f0 (countF f0 (fun _ => 0) ms).2 := by
  intro e he
  have t := (plays_ok ok p).2.2 e he
  rw [fit_iff]
  have h1 := slp_pm f e.1 e.2
  have h0 := slp_pm f0 e.1 e.2
  split <;> omega
end U

/-! paths found level by level: the plain law -/
namespace U
open PySem PySem.Spec PyProof.Rows L2
/-- nodes found, each with its path, in the order in which they are found -/
abbrev keysF (kp : List (Str × List Str)) : List Str := kp.map (·.1)
def addF (ok : Str → Str → Bool) (c : Str × List Str) (kp : List (Str × List Str)) (o : Str) : List (Str × List Str) := if o ∉ keysF kp ∧ ok c.1 o = true then kp ++ [(o, c.2 ++ [o])] else kp
def addsF (ok : Str → Str → Bool) (c : Str × List Str) (os : List Str) (kp : List (Str × List Str)) : List (Str × List Str) := os.foldl (addF ok c) kp
def stF (adj : Str → List Str) (ok : Str → Str → Bool) (root : Str) : Nat → List (Str × List Str)
  | 0 => [(root, [root])]
  | i + 1 => match (stF adj ok root i)[i]? with
    | none => stF adj ok root i
    | some c => addsF ok c (adj c.1) (stF adj ok root i)
def pathsF (adj : Str → List Str) (ok : Str → Str → Bool) (root : Str) : List (Str × List Str) := stF adj ok root 1000
inductive Reach (adj : Str → List Str) (ok : Str → Str → Bool) (root : Str) : Str → Prop
  | refl : Reach adj ok root root
  | step {a b : Str} : Reach adj ok root a → b ∈ adj a → ok a b = true → Reach adj ok root b
theorem Reach.trans {adj : Str → List Str} {ok : Str → Str → Bool} {a b c : Str} (h : Reach adj ok a b) (k : Reach adj ok b c) : Reach adj ok a c := by
  induction k with
  | refl => exact h
  | step _ m o ih => exact .step ih m o
section
variable {adj : Str → List Str} {ok : Str → Str → Bool} {root : Str}
theorem addF_cases (c : Str × List Str) (kp : List (Str × List Str)) (o : Str) : (addF ok c kp o = kp ∧ (o ∈ keysF kp ∨ ok c.1 o = false)) ∨ (addF ok c kp o = kp ++ [(o, c.2 ++ [o])] ∧ o ∉ keysF kp ∧ ok c.1 o = true) := by
  unfold addF
  by_cases h : o ∉ keysF kp ∧ ok c.1 o = true
  · rw [if_pos h]
    exact .inr ⟨rfl, h⟩
  · rw [if_neg h]
    refine .inl ⟨rfl, ?_⟩
    by_cases m : o ∈ keysF kp
    · exact .inl m
    · refine .inr ?_
      cases e : ok c.1 o with
      | false => rfl
      | true => exact (h ⟨m, e⟩).elim
theorem addsF_snoc {c : Str × List Str} {os : List Str} {o : Str} {kp : List (Str × List Str)} : addsF ok c (os ++ [o]) kp = addF ok c (addsF ok c os kp) o := by
  unfold addsF
  rw [List.foldl_append]
  rfl
theorem addsF_pre {c : Str × List Str} : ∀ {os : List Str} {kp : List (Str × List Str)}, ∃ r, addsF ok c os kp = kp ++ r
  | [], kp => ⟨[], (List.append_nil kp).symm⟩
  | o :: os, kp => by
    obtain ⟨r, hr⟩ := addsF_pre (c := c) (os := os) (kp := addF ok c kp o)
    have e : addsF ok c (o :: os) kp = addsF ok c os (addF ok c kp o) := rfl
    rw [e, hr]
    rcases addF_cases c kp o with ⟨h, _⟩ | ⟨h, _⟩
    · rw [h]
      exact ⟨r, rfl⟩
    · rw [h, List.append_assoc]
      exact ⟨_, rfl⟩
/-- what is added: each a neighbour that may be gone to -/
theorem addsF_mem {c : Str × List Str} : ∀ {os : List Str} {kp : List (Str × List Str)} {x : Str × List Str}, x ∈ addsF ok c os kp → x ∈ kp ∨ (x.1 ∈ os ∧ ok c.1 x.1 = true ∧ x.2 = c.2 ++ [x.1])
  | [], kp, x, h => .inl h
  | o :: os, kp, x, h => by
    have e : addsF ok c (o :: os) kp = addsF ok c os (addF ok c kp o) := rfl
    rw [e] at h
    rcases addsF_mem h with h | ⟨h1, h2, h3⟩
    · rcases addF_cases c kp o with ⟨e, _⟩ | ⟨e, _, k⟩
      · rw [e] at h
        exact .inl h
      · rw [e] at h
        rcases List.mem_append.mp h with h | h
        · exact .inl h
        · rw [List.mem_singleton] at h
          subst h
          exact .inr ⟨List.mem_cons_self, k, rfl⟩
    · exact .inr ⟨List.mem_cons_of_mem _ h1, h2, h3⟩
theorem addsF_all {c : Str × List Str} : ∀ {os : List Str} {kp : List (Str × List Str)} {o : Str}, o ∈ os → ok c.1 o = true → o ∈ keysF (addsF ok c os kp)
  | o' :: os, kp, o, h, k => by
    have e : addsF ok c (o' :: os) kp = addsF ok c os (addF ok c kp o') := rfl
    rw [e]
    rcases List.mem_cons.mp h with rfl | h
    · obtain ⟨r, hr⟩ := addsF_pre (ok := ok) (c := c) (os := os) (kp := addF ok c kp o)
      rw [hr, keysF, List.map_append]
      refine List.mem_append_left _ ?_
      rcases addF_cases c kp o with ⟨e, m⟩ | ⟨e, _⟩
      · rw [e]
        rcases m with m | m
        · exact m
        · rw [k] at m
          cases m
      · rw [e, List.map_append]
        exact List.mem_append_right _ List.mem_cons_self
    · exact addsF_all h k
theorem addF_nodup {c : Str × List Str} {kp : List (Str × List Str)} {o : Str} (h : (keysF kp).Nodup) : (keysF (addF ok c kp o)).Nodup := by
  rcases addF_cases c kp o with ⟨e, _⟩ | ⟨e, m, _⟩
  · rw [e]
    exact h
  · rw [e, keysF, List.map_append, List.nodup_append]
    refine ⟨h, by simp, fun a ha b hb z => ?_⟩
    have : b = o := by simpa using hb
    rw [z, this] at ha
    exact m ha
theorem addsF_nodup {c : Str × List Str} : ∀ {os : List Str} {kp : List (Str × List Str)}, (keysF kp).Nodup → (keysF (addsF ok c os kp)).Nodup
  | [], _, h => h
  | o :: os, kp, h => addsF_nodup (os := os) (addF_nodup h)
theorem stF_at {i : Nat} {c : Str × List Str} (h : (stF adj ok root i)[i]? = some c) : stF adj ok root (i + 1) = addsF ok c (adj c.1) (stF adj ok root i) := by
  rw [stF, h]
theorem stF_end {i : Nat} (h : (stF adj ok root i)[i]? = none) : stF adj ok root (i + 1) = stF adj ok root i := by
  rw [stF, h]
theorem stF_pre (i : Nat) : ∃ r, stF adj ok root (i + 1) = stF adj ok root i ++ r := by
  cases h : (stF adj ok root i)[i]? with
  | none => rw [stF_end h]; exact ⟨[], (List.append_nil _).symm⟩
  | some c => rw [stF_at h]; exact addsF_pre
theorem stF_pre' (i : Nat) : ∀ k, ∃ r, stF adj ok root (i + k) = stF adj ok root i ++ r
  | 0 => ⟨[], (List.append_nil _).symm⟩
  | k + 1 => by
    obtain ⟨r, hr⟩ := stF_pre' i k
    obtain ⟨r2, h2⟩ := stF_pre (adj := adj) (ok := ok) (root := root) (i + k)
    exact ⟨r ++ r2, by rw [← Nat.add_assoc, h2, hr, List.append_assoc]⟩
theorem stF_stop {i : Nat} (h : (stF adj ok root i).length ≤ i) : ∀ k, stF adj ok root (i + k) = stF adj ok root i
  | 0 => rfl
  | k + 1 => by
    have e := stF_stop h k
    rw [← Nat.add_assoc, stF_end (by rw [e]; exact List.getElem?_eq_none (by omega)), e]
theorem stF_nodup : ∀ i, (keysF (stF adj ok root i)).Nodup
  | 0 => by simp [stF]
  | i + 1 => by
    cases h : (stF adj ok root i)[i]? with
    | none => rw [stF_end h]; exact stF_nodup i
    | some c => rw [stF_at h]; exact addsF_nodup (stF_nodup i)
theorem stF_root (i : Nat) : ∃ r, stF adj ok root i = (root, [root]) :: r := by
  obtain ⟨r, h⟩ := stF_pre' (adj := adj) (ok := ok) (root := root) 0 i
  rw [Nat.zero_add] at h
  exact ⟨r, h⟩
/-- a path: from the first to the last, each step to a neighbour that may be gone to -/
inductive PathTo (adj : Str → List Str) (ok : Str → Str → Bool) (root : Str) : Str → List Str → Prop
  | one : PathTo adj ok root root [root]
  | snoc {a b : Str} {p : List Str} : PathTo adj ok root a p → b ∈ adj a → ok a b = true → PathTo adj ok root b (p ++ [b])
theorem PathTo.reach {a : Str} {p : List Str} (h : PathTo adj ok root a p) : Reach adj ok root a := by
  induction h with
  | one => exact .refl
  | snoc _ m o ih => exact .step ih m o
theorem stF_path : ∀ i x, x ∈ stF adj ok root i → PathTo adj ok root x.1 x.2
  | 0, x, h => by
    rw [stF, List.mem_singleton] at h
    subst h
    exact .one
  | i + 1, x, h => by
    cases e : (stF adj ok root i)[i]? with
    | none => rw [stF_end e] at h; exact stF_path i x h
    | some c =>
      rw [stF_at e] at h
      rcases addsF_mem h with h | ⟨h1, h2, h3⟩
      · exact stF_path i x h
      · have := stF_path i c (List.mem_of_getElem? e)
        rw [h3]
        exact .snoc this h1 h2
theorem stF_reach {i : Nat} {x : Str} (h : x ∈ keysF (stF adj ok root i)) : Reach adj ok root x := by
  obtain ⟨y, hy, rfl⟩ := List.mem_map.mp h
  exact (stF_path i y hy).reach
/-- those whose turn has been have their neighbours found -/
theorem stF_closed : ∀ (i j : Nat) (c : Str × List Str), j < i → (stF adj ok root i)[j]? = some c → ∀ b ∈ adj c.1, ok c.1 b = true → b ∈ keysF (stF adj ok root i)
  | i + 1, j, c, hj, hc, b, hb, hk => by
    cases e : (stF adj ok root i)[i]? with
    | none =>
      rw [stF_end e] at hc ⊢
      have : j < (stF adj ok root i).length := (List.getElem?_eq_some_iff.mp hc).1
      have := List.getElem?_eq_none_iff.mp e
      exact stF_closed i j c (by omega) hc b hb hk
    | some d =>
      have li : i < (stF adj ok root i).length := (List.getElem?_eq_some_iff.mp e).1
      obtain ⟨r, hr⟩ := stF_pre (adj := adj) (ok := ok) (root := root) i
      have hc2 : (stF adj ok root i)[j]? = some c := by
        rw [hr, List.getElem?_append_left (by omega)] at hc
        exact hc
      by_cases q : j < i
      · have := stF_closed i j c q hc2 b hb hk
        rw [hr, keysF, List.map_append]
        exact List.mem_append_left _ this
      · have : j = i := by omega
        subst this
        rw [hc2] at e
        cases e
        rw [stF_at hc2]
        exact addsF_all hb hk
theorem stF_all {i : Nat} (h : (stF adj ok root i).length ≤ i) {x : Str} (r : Reach adj ok root x) : x ∈ keysF (stF adj ok root i) := by
  induction r with
  | refl =>
    obtain ⟨r, e⟩ := stF_root (adj := adj) (ok := ok) (root := root) i
    rw [e]
    exact List.mem_cons_self
  | step _ m o ih =>
    obtain ⟨y, hy, rfl⟩ := List.mem_map.mp ih
    obtain ⟨j, hj, e⟩ := List.mem_iff_getElem.mp hy
    exact stF_closed i j y (by omega) (by rw [List.getElem?_eq_getElem hj, e]) _ m o
/-- nodes of ns alone -/
theorem reach_mem {ns : List Str} (cl : ∀ x ∈ ns, ∀ y ∈ adj x, y ∈ ns) (h0 : root ∈ ns) {x : Str} (r : Reach adj ok root x) : x ∈ ns := by
  induction r with
  | refl => exact h0
  | step _ m _ ih => exact cl _ ih _ m
theorem nodup_len {α : Type} [DecidableEq α] : ∀ {xs ys : List α}, xs.Nodup → (∀ x ∈ xs, x ∈ ys) → xs.length ≤ ys.length
  | [], _, _, _ => Nat.zero_le _
  | x :: xs, ys, nd, h => by
    rw [List.nodup_cons] at nd
    have hx := h x List.mem_cons_self
    have := nodup_len (xs := xs) (ys := ys.erase x) nd.2 fun y hy => by
      refine (List.mem_erase_of_ne ?_).mpr (h y (List.mem_cons_of_mem _ hy))
      rintro rfl
      exact nd.1 hy
    rw [List.length_erase_of_mem hx] at this
    have : 0 < ys.length := List.length_pos_of_mem hx
    rw [List.length_cons]
    omega
theorem stF_len {ns : List Str} (cl : ∀ x ∈ ns, ∀ y ∈ adj x, y ∈ ns) (h0 : root ∈ ns) (i : Nat) : (stF adj ok root i).length ≤ ns.length := by
  have := nodup_len (stF_nodup (adj := adj) (ok := ok) (root := root) i) (ys := ns) fun x hx => reach_mem cl h0 (stF_reach hx)
  rw [List.length_map] at this
  exact this
theorem addsF_len {c : Str × List Str} : ∀ {os : List Str} {kp : List (Str × List Str)}, (addsF ok c os kp).length ≤ kp.length + os.length
  | [], kp => Nat.le_refl _
  | o :: os, kp => by
    have e : addsF ok c (o :: os) kp = addsF ok c os (addF ok c kp o) := rfl
    have := addsF_len (c := c) (os := os) (kp := addF ok c kp o)
    rw [e, List.length_cons]
    rcases addF_cases c kp o with ⟨z, _⟩ | ⟨z, _⟩ <;> rw [z] at this
    · rw [z]
      omega
    · rw [z]
      rw [List.length_append, List.length_singleton] at this
      omega
theorem stF_plen : ∀ i x, x ∈ stF adj ok root i → x.2.length ≤ i + 1
  | 0, x, h => by
    rw [stF, List.mem_singleton] at h
    subst h
    exact Nat.le_refl _
  | i + 1, x, h => by
    cases e : (stF adj ok root i)[i]? with
    | none =>
      rw [stF_end e] at h
      have := stF_plen i x h
      omega
    | some c =>
      rw [stF_at e] at h
      rcases addsF_mem h with h | ⟨h1, h2, h3⟩
      · have := stF_plen i x h
        omega
      · have := stF_plen i c (List.mem_of_getElem? e)
        rw [h3, List.length_append, List.length_singleton]
        omega
/-- where the loop ends, all is found -/
theorem stF_done {i : Nat} (h : (stF adj ok root i).length ≤ i) (hi : i ≤ 1000) : stF adj ok root i = pathsF adj ok root := by
  have e := stF_stop h (1000 - i)
  rw [Nat.add_sub_cancel' hi] at e
  exact e.symm
end

/-! ### neighbours in order -/
def sortS (xs : List Str) : List Str := xs.mergeSort fun a b => !decide (sLt b a)
theorem sortS_perm (xs : List Str) : (sortS xs).Perm xs := List.mergeSort_perm xs _
theorem nlt_trans {a b c : Str} (h : ¬ sLt b a) (k : ¬ sLt c b) : ¬ sLt c a := by
  intro z
  rcases sLt_tri a b with t | t | t
  · exact k (sLt_trans z t)
  · subst t
    exact k z
  · exact h t
theorem sortS_pw (xs : List Str) : (sortS xs).Pairwise fun a b => ¬ sLt b a := by
  have := List.pairwise_mergeSort (le := fun a b : Str => !decide (sLt b a)) (fun a b c h k => by
    simp only [Bool.not_eq_true', decide_eq_false_iff_not] at h k ⊢
    exact nlt_trans h k) (fun a b => by
    rw [Bool.or_eq_true]
    simp only [Bool.not_eq_true', decide_eq_false_iff_not]
    by_cases z : sLt b a
    · exact .inr (sLt_asymm z)
    · exact .inl z) xs
  exact this.imp fun h => by
    simp only [Bool.not_eq_true', decide_eq_false_iff_not] at h
    exact h
theorem sortS_asc {xs : List Str} (nd : xs.Nodup) : Asc (sortS xs) := asc_of_sorted (sortS_pw xs) ((sortS_perm xs).nodup_iff.mpr nd)
theorem sort_uniq {xs ys : List Str} (p : ys.Perm xs) (s : ys.Pairwise fun a b => ¬ sLt b a) (nd : xs.Nodup) : ys = sortS xs :=
  asc_unique (asc_of_sorted s (p.nodup_iff.mpr nd)) (sortS_asc nd) fun z => by rw [p.mem_iff, (sortS_perm xs).mem_iff]
theorem nbrF_nodup {ns : List Str} {es : List (Str × Str)} (ok : GrOk ns es) (x : Str) : (nbrF es x).Nodup := by
  unfold nbrF
  rw [List.nodup_iff_pairwise_ne, List.pairwise_flatMap]
  have m : ∀ {e : Str × Str} {z : Str}, z ∈ (if e.1 = x then [e.2] else []) ++ (if e.2 = x then [e.1] else []) → (e.1 = x ∧ z = e.2) ∨ (e.2 = x ∧ z = e.1) := by
    intro e z h
    rcases List.mem_append.mp h with h | h
    · split at h
      · rename_i c
        exact .inl ⟨c, by simpa using h⟩
      · cases h
    · split at h
      · rename_i c
        exact .inr ⟨c, by simpa using h⟩
      · cases h
  refine ⟨fun e he => ?_, ?_⟩
  · by_cases c : e.1 = x
    · have c2 : ¬ e.2 = x := fun z => by
        have := ok.lt e he
        rw [c, z] at this
        exact sLt_irrefl _ this
      rw [if_pos c, if_neg c2]
      simp
    · rw [if_neg c]
      split <;> simp
  · have nd := List.nodup_iff_pairwise_ne.mp (ascE_nodup ok.asc)
    refine List.Pairwise.imp_of_mem (fun {e d} he hd ne => ?_) nd
    intro z hz y hy zy
    subst zy
    have le := ok.lt e he
    have ld := ok.lt d hd
    rcases m hz with ⟨a1, a2⟩ | ⟨a1, a2⟩ <;> rcases m hy with ⟨b1, b2⟩ | ⟨b1, b2⟩
    · exact ne (Prod.ext (a1.trans b1.symm) (a2.symm.trans b2))
    · rw [a1, ← a2] at le
      rw [b1, ← b2] at ld
      exact sLt_asymm le ld
    · rw [a1, ← a2] at le
      rw [b1, ← b2] at ld
      exact sLt_asymm le ld
    · exact ne (Prod.ext (a2.symm.trans b2) (a1.trans b1.symm))
def nbS (es : List (Str × Str)) (x : Str) : List Str := sortS (nbrF es x)
theorem nbS_mem {es : List (Str × Str)} {x z : Str} : z ∈ nbS es x ↔ (x, z) ∈ es ∨ (z, x) ∈ es := by
  unfold nbS
  rw [(sortS_perm _).mem_iff]
  exact mem_nbrF
theorem nbS_of {ns : List Str} {es : List (Str × Str)} {x : Str} {ys : List Str} (ok : GrOk ns es) (p : ys.Perm (nbrF es x)) (s : ys.Pairwise fun a b => ¬ sLt b a) : ys = nbS es x := sort_uniq p s (nbrF_nodup ok x)
theorem nbS_in {ns : List Str} {es : List (Str × Str)} (ok : GrOk ns es) {x y : Str} (h : y ∈ nbS es x) : y ∈ ns := by
  rcases nbS_mem.mp h with h | h
  · exact (ok.mem _ h).2
  · exact (ok.mem _ h).1
end U

/-! medians, distances -/
namespace U
open PySem PySem.Spec PyProof.Rows L2
/-! ### distances -/
def ab (x y : Int) : Int := ((x - y).natAbs : Int)
end U

/-! comprehensions, locks, statements that are never reached: their readings -/
namespace U
open PySem PySem.Spec PyProof.Rows L2
/-- f(e, .., k = v, ..): the keywords in the parameters' order, behind the rest -/
structure CalK (P : Program) (w : World) (K : PySem.W.Frag) (mg : Str → Option Value) (base : Heap) (CX : CXT) (k : Nat) (x : Str) (np : Nat) (ks : List Str) (sp : Sp) : Prop where
  ex : ∃ (f : Addr) (fd : FuncData) (ps : List Str), FnG P w K mg base CX k f fd ps sp ∧ mg x = some (.ref f) ∧ PySem.W.keepIn K (.ref f) = true ∧
    ∀ us ws : List Value, us.length = np → ws.length = ks.length → bindArgs fd ⟨us, ks.zip ws⟩ = pure (ps.zip (us ++ ws))
def tCK (sp : Sp) (np nk : Nat) (E : XK) (t tk : TA) : TE := fun σ H Q => t σ H fun vs H1 => vs.length = np ∧ tk σ H1 fun zs H2 => zs.length = nk ∧ sp (vs ++ zs) H2 Q E
theorem vals_app {vs zs : List V} {us ws : List Value} (a : Vals vs us) (b : Vals zs ws) : Vals (vs ++ zs) (us ++ ws) := a.append b
theorem pe_cK {X : Cx} {CX : L2.CXT} {k j : Nat} {x : Str} {np : Nat} {ks : List Str} {sp : Sp} {E : XK} {e : Expr} {es : List Expr} {kws : List Keyword} {t tk : TA} {p pos : Pos} (c : CalK X.prog X.w X.K X.mg X.base CX k x np ks sp) (hr : Rm j X.A) (hk : k ≤ j) (hg : Gl X x) (hx : Passes CX X E)
    (ha : PA X (e :: es) t) (hkw : PK X kws tk) (hall : (backToKw pos (keywordEach kws X.env)).all (·.1.isSome) = true := by rfl) (hks : (backToKw pos (keywordEach kws X.env)).filterMap (·.1) = ks := by rfl)
    (hdb : (x == ("__debug__" : Str)) = false := by decide) (he : starEach (e :: es) X.env = (false, eval e X.env) :: starEach es X.env := by rfl)
    (hpl : ((backTo pos (starEach (e :: es) X.env)).any (·.1) || (backToKw pos (keywordEach kws X.env)).any (·.1.isNone)) = false := by rfl) :
    PE X (.Call (.Name x p) (e :: es) kws pos) (tCK sp np ks.length E t tk) := by
  obtain ⟨f, fd, ps, F, hm, kp, b⟩ := c.ex
  refine ⟨fun pins s σ H Q I h => wpAny_Call_Name_kw (ld_glob I hg hm ?_ hdb)⟩
  refine PySem.W.callWith_KW (h₀ := X.base) I.ok.mod.kin kp hall (thn (ha.run pos pins s σ H _ I h) fun us s1 ⟨vs, H1, I1, r, hn, q⟩ => ?_) hpl he
  refine thn (hkw.run pos pins s1 σ H1 _ I1 q) fun ws s2 ⟨zs, H2, I2, rz, hz, q2⟩ => ⟨I2.kIn, ?_⟩
  rw [hks]
  have bd : BindsTo s2 fd ⟨us, ks.zip ws⟩ (ps.zip (us ++ ws)) := .of_eq (b us ws (by rw [← r.length]; exact hn) (by rw [← rz.length]; exact hz))
  refine wpAny_call (codeAny_mono (F.go X.A X.stack s2 H2 ⟨us, ks.zip ws⟩ (us ++ ws) (vs ++ zs) Q E (hr.mono hk) I2.env0 bd (vals_app r rz) q2) ?_)
  intro res s' hq
  cases res with
  | error er => exact hx pins σ H2 s2 er s' I2 hq
  | ok fl =>
    cases fl with
    | ret u => exact I2.after hq
    | next => exact hq.elim
    | brk => exact hq.elim
    | cont => exact hq.elim
theorem ps_dead {X : Cx} {st : Stmt} : PS X st (fun _ _ _ => False) := ⟨fun _ _ _ _ _ _ h => h.elim⟩
def DcB (J : It) (g : TG) (tt : TT) (tk tv : TE) (vs : List Nat) (σ : L2.St) (H1 : Hp) (D : Addr) (Qd : Hp → Prop) : Prop := ∃ W : Nat → Nat → Hp → Prop, (∃ m, W 0 m (upd H1 D (.dK []))) ∧ ∀ i m H, W i m H →
  (J.stop i H ∧ Qd H) ∨ (J.go i H ∧ ∃ Nx : Hp → Prop, (∀ H', Nx H' → ∃ m', m' < m ∧ W (i + 1) m' H') ∧ ∀ x H', J.yld i H x H' → g x (wipe σ vs) H' fun σ2 H2 => wipe σ2 vs = wipe σ vs ∧ tt σ2 H2 fun b H3 =>
    if b = true then tk σ2 H3 fun y H4 => tv σ2 H4 fun z H5 => ∃ kvs k, y = kV k ∧ H5 D = some (.dK kvs) ∧ kvs.length < sizeLine ∧ Nx (upd H5 D (.dK (putK kvs k z))) else Nx H3)
section
variable {σ : L2.St} {H : Hp} {Q : VK} {D : Ends} {te td ty tv : TE} {t : TS} {g : TG} {wi : TI} {R : It → Hp → Prop} {tt : TT} {vs : List Nat} {L : Addr} {Qd : Hp → Prop} {J : It} {n : Nat} {G : Hp → Prop} {Y : Nat → Hp → V → Hp → Prop} {K : PySem.W.Frag}
theorem lcW (w : Walk J n G Y) (Pv : Nat → Hp → Prop) (h0 : Pv 0 (upd H L (.lst []))) (hG : ∀ i H, i ≤ n → Pv i H → G H)
    (hs : ∀ i x H H', i < n → Pv i H → Y i H x H' → g x (wipe σ vs) H' fun σ2 H2 => wipe σ2 vs = wipe σ vs ∧ tt σ2 H2 fun b H3 =>
      if b = true then te σ2 H3 fun y H4 => ∃ acc, H4 L = some (.lst acc) ∧ acc.length < sizeLine ∧ Pv (i + 1) (upd H4 L (.lst (acc ++ [y]))) else Pv (i + 1) H3) (hd : ∀ H, Pv n H → Qd H) : LcB J g tt te vs σ H L Qd := lc_it w Pv h0 hG hs hd
theorem dcW {tk : TE} (w : Walk J n G Y) (Pv : Nat → Hp → Prop) (h0 : Pv 0 (upd H L (.dK []))) (hG : ∀ i H, i ≤ n → Pv i H → G H)
    (hs : ∀ i x H H', i < n → Pv i H → Y i H x H' → g x (wipe σ vs) H' fun σ2 H2 => wipe σ2 vs = wipe σ vs ∧ tt σ2 H2 fun b H3 =>
      if b = true then tk σ2 H3 fun y H4 => tv σ2 H4 fun z H5 => ∃ kvs k, y = kV k ∧ H5 L = some (.dK kvs) ∧ kvs.length < sizeLine ∧ Pv (i + 1) (upd H5 L (.dK (putK kvs k z))) else Pv (i + 1) H3) (hd : ∀ H, Pv n H → Qd H) : DcB J g tt tk tv vs σ H L Qd := by
  refine ⟨fun i m H => m = n - i ∧ i ≤ n ∧ Pv i H, ⟨n, by simp, Nat.zero_le _, h0⟩, ?_⟩
  rintro i m H ⟨rfl, hi, p⟩
  have q := hG i H hi p
  by_cases hlt : i < n
  · refine .inr ⟨w.goes i H hlt q, Pv (i + 1), fun H' p' => ⟨n - (i + 1), by omega, rfl, hlt, p'⟩, fun x H' y => hs i x H H' hlt p (w.yields i H x H' hlt q y)⟩
  · have e : i = n := by omega
    subst e
    exact .inl ⟨w.stops H q, hd H p⟩
theorem rd_dc {tk : TE} (h : wi σ H fun J H1 => ∀ D, H1 D = none → DcB J g tt tk tv vs σ H1 D fun H2 => Q (.ref D) H2) : tDc wi g tt tk tv vs σ H Q := h
/-- under a lock: what the block leaves at the lock's place is the locked thing -/
theorem rd_lockE {d : Addr} {kvs : List (Key × V)} (hd : H d = some (.dK kvs)) (h : ∀ od, te σ (upd H d (.frz od (.dK kvs))) fun v H' => H' d = some (.frz od (.dK kvs)) ∧ Q v (upd H' d (.dK kvs))) : tLockE te σ H Q := ⟨d, _, hd, trivial, h⟩
theorem rd_iItems (h : td σ H fun x H1 => ∃ d o kvs, x = .ref d ∧ H1 d = some (.frz o (.dK kvs)) ∧ R (Iti d o kvs) H1) : iItems td σ H R := h
theorem rd_iKeys (h : td σ H fun x H1 => ∃ d o, x = .ref d ∧ ((∃ kvs, H1 d = some (.frz o (.dK kvs)) ∧ R (Itk d o kvs) H1) ∨ ∃ kvs, H1 d = some (.frz o (.dT kvs)) ∧ R (Itkt d o kvs) H1)) : iKeys td σ H R := h
theorem rd_forI {d : Addr} {o : Obj} {kvs : List (Key × V)} {R : Addr → Obj → List (Key × V) → Prop} (hd : H d = some (.frz o (.dK kvs))) (h : R d o kvs) : ∃ d' o kvs, V.ref d = .ref d' ∧ H d' = some (.frz o (.dK kvs)) ∧ R d' o kvs := ⟨d, o, kvs, rfl, hd, h⟩
theorem rd_forK {d : Addr} {o : Obj} {kvs : List (Key × V)} {R : Addr → Obj → List (Key × V) → Prop} {R2 : Addr → Obj → List (List Key × V) → Prop} (hd : H d = some (.frz o (.dK kvs))) (h : R d o kvs) :
    ∃ d' o, V.ref d = .ref d' ∧ ((∃ kvs, H d' = some (.frz o (.dK kvs)) ∧ R d' o kvs) ∨ ∃ kvs, H d' = some (.frz o (.dT kvs)) ∧ R2 d' o kvs) := ⟨d, o, rfl, .inl ⟨kvs, hd, h⟩⟩
theorem rd_wp {vs : List Nat} {σ1 σ2 : L2.St} {P : Prop} (e : wipe σ1 vs = wipe σ2 vs) (h : P) : wipe σ1 vs = wipe σ2 vs ∧ P := ⟨e, h⟩
theorem rd_yesT {Q : Bool → Hp → Prop} (h : Q true H) : tYes σ H Q := h
theorem rd_acc {L : Addr} {acc : List V} {R : List V → Prop} (hL : H L = some (.lst acc)) (hz : acc.length < 100000) (h : R acc) : ∃ acc, H L = some (.lst acc) ∧ acc.length < sizeLine ∧ R acc := ⟨acc, hL, Nat.lt_of_lt_of_le hz (by decide), h⟩
theorem rd_accD {L : Addr} {y : V} {kvs : List (Key × V)} {k : Key} {R : List (Key × V) → Key → Prop} (hy : y = kV k) (hL : H L = some (.dK kvs)) (hz : kvs.length < 100000) (h : R kvs k) : ∃ kvs k, y = kV k ∧ H L = some (.dK kvs) ∧ kvs.length < sizeLine ∧ R kvs k := ⟨kvs, k, hy, hL, Nat.lt_of_lt_of_le hz (by decide), h⟩
theorem inV_str {v : Str} {xs : List Str} : inV (.str v) (xs.map V.str) = decide (v ∈ xs) := by
  induction xs with
  | nil => rfl
  | cons x xs ih =>
    unfold inV at ih ⊢
    rw [List.map_cons, List.any_cons, ih]
    simp only [eqV, List.mem_cons, Bool.decide_or]
    congr 1
    exact decide_eq_decide.mpr ⟨Eq.symm, Eq.symm⟩
theorem flat_str {xs : List Str} : (xs.map V.str).all flatV = true := by
  rw [List.all_eq_true]
  intro x hx
  obtain ⟨i, _, rfl⟩ := List.mem_map.mp hx
  rfl
theorem rd_inSL {p : Addr} {v : Str} {xs : List Str} (hs : SqL K H p (xs.map V.str)) (h : Q (.bl (decide (v ∈ xs))) H) : rInU K (.str v) (.ref p) H Q := ⟨_, .inl hs, rfl, flat_str, by rw [inV_str]; exact h⟩
theorem rd_ninSL {p : Addr} {v : Str} {xs : List Str} (hs : SqL K H p (xs.map V.str)) (h : Q (.bl (!decide (v ∈ xs))) H) : rNotInU K (.str v) (.ref p) H Q := ⟨_, .inl hs, rfl, flat_str, by rw [inV_str]; exact h⟩
theorem rd_inST {p : Addr} {v : Str} {xs : List Str} (hs : SqT K H p (xs.map V.str)) (h : Q (.bl (decide (v ∈ xs))) H) : rInU K (.str v) (.ref p) H Q := ⟨_, .inr hs, rfl, flat_str, by rw [inV_str]; exact h⟩
theorem rd_ninST {p : Addr} {v : Str} {xs : List Str} (hs : SqT K H p (xs.map V.str)) (h : Q (.bl (!decide (v ∈ xs))) H) : rNotInU K (.str v) (.ref p) H Q := ⟨_, .inr hs, rfl, flat_str, by rw [inV_str]; exact h⟩
theorem rd_catL {p q : Addr} {xs ys : List V} (h1 : H p = some (.lst xs)) (h2 : H q = some (.lst ys)) (hz : xs.length + ys.length ≤ 100000) (h : nL (xs ++ ys) H Q) : rAddU K (.ref p) (.ref q) H Q := .inl ⟨xs, ys, h1, h2, Nat.le_trans hz (by decide), h⟩
theorem GrAt.same {H' : Hp} {g n e : Addr} {ns : List Str} {es : List (Addr × Str × Str)} (h : GrAt H g n e ns es) (s : Same H H') : GrAt H' g n e ns es :=
  ⟨s _ _ h.top, s _ _ h.nodes, s _ _ h.edges, fun x hx => s _ _ (h.pairs x hx)⟩
theorem GrAt.but {H' : Hp} {p g n e : Addr} {ys : List V} {ns : List Str} {es : List (Addr × Str × Str)} (h : GrAt H g n e ns es) (hp : H p = some (.lst ys)) (b : But p H H') : GrAt H' g n e ns es := by
  have k : ∀ {a : Addr} {xs : List V}, H a = some (.tup xs) → H' a = some (.tup xs) := fun {a xs} ha => b _ _ (ne_of ha hp (by intro z; cases z)) ha
  exact ⟨k h.top, k h.nodes, k h.edges, fun x hx => k (h.pairs x hx)⟩
theorem But.dK {H' : Hp} {p d : Addr} {ys : List V} {kvs : List (Key × V)} (b : But p H H') (hp : H p = some (.lst ys)) (h : H d = some (.dK kvs)) : H' d = some (.dK kvs) := b _ _ (ne_of h hp (by intro z; cases z)) h
theorem But.tup {H' : Hp} {p d : Addr} {ys xs : List V} (b : But p H H') (hp : H p = some (.lst ys)) (h : H d = some (.tup xs)) : H' d = some (.tup xs) := b _ _ (ne_of h hp (by intro z; cases z)) h
theorem same_put {H1 : Hp} {a : Addr} {o : HO} (s : Same H H1) (n : H a = none) : Same H (upd H1 a o) := fun c u h => at_upd (ne_of_none h n) (s c u h)
theorem same_add {H1 : Hp} {a : Addr} {o : HO} (s : Same H H1) (n : H1 a = none) : Same H (upd H1 a o) := fun c u h => at_upd (ne_of_none (s c u h) n) (s c u h)
theorem rd_isi {x : V} {n : String} {a t : Ty} (h1 : TyIs K H x a) (h2 : tyOf n = some t) (h : Q (.bl (isT a t)) H) : rIsiU K [x, .ty n] H Q := ⟨a, t, h1, h2, h⟩
theorem rd_din (h : ty σ H fun y H1 => td σ H1 fun x H2 => ∃ a o, x = .ref a ∧ DGet H2 a y o ∧ Q (.bl o.isSome) H2) : tDIn ty td σ H Q := h
theorem rd_dnin (h : ty σ H fun y H1 => td σ H1 fun x H2 => ∃ a o, x = .ref a ∧ DGet H2 a y o ∧ Q (.bl (!o.isSome)) H2) : tDNotIn ty td σ H Q := h
theorem rd_din1 {p : Addr} {kvs : List (Key × V)} {k : Key} {y : V} {R : Option V → Prop} (hs : Rd H p (.dK kvs)) (hy : y = kV k) (h : R (valV kvs k)) : ∃ a o, V.ref p = .ref a ∧ DGet H a y o ∧ R o := ⟨p, _, rfl, .inl ⟨kvs, k, hs, hy, rfl⟩, h⟩
theorem rd_nT {A B : Prop} (h : B) : if (!true) = true then A else B := h
theorem rd_nF {A B : Prop} (h : A) : if (!false) = true then A else B := h
/-- repr of a truth value -/
def shB (b : Bool) : Str := if b then "True" else "False"
def rReprU : List V → Hp → VK → Prop := fun xs H Q => match xs with
  | [.bl b] => Q (.str (shB b)) H
  | _ => False
theorem rd_reprB {b : Bool} (h : Q (.str (shB b)) H) : rReprU [.bl b] H Q := h
theorem rd_ck {sp : Sp} {E : XK} {np nk : Nat} {t tk : TA} (h : t σ H fun vs H1 => vs.length = np ∧ tk σ H1 fun zs H2 => zs.length = nk ∧ sp (vs ++ zs) H2 Q E) : tCK sp np nk E t tk σ H Q := h
theorem rd_len {vs : List V} {k : Nat} {P : Prop} (e : vs.length = k) (h : P) : vs.length = k ∧ P := ⟨e, h⟩
theorem rd_par {i j : Nat} {ta : TA} (h : ta σ H fun vs H1 => ∃ v w, vs = [v, w] ∧ D.nx ((σ.set i (some v)).set j (some w)) H1) : tPar i j ta D σ H := h
theorem rd_two {v w' : V} {R : V → V → Prop} (h : R v w') : ∃ x y, [v, w'] = [x, y] ∧ R x y := ⟨v, w', rfl, h⟩
theorem rd_allL {p : Addr} {bs : List Bool} (hs : SqL K H p (bs.map V.bl)) (h : Q (.bl (bs.all id)) H) : rAllU K [.ref p] H Q := ⟨bs, hs, h⟩
theorem rd_isB {a b : Bool} (h : Q (.bl (decide (a = b))) H) : rIsU (.bl a) (.bl b) H Q := ⟨a, rfl, h⟩
theorem rd_isNotB {a b : Bool} (h : Q (.bl (!decide (a = b))) H) : rIsNotU (.bl a) (.bl b) H Q := ⟨a, rfl, h⟩
theorem rd_daug {rd : V → V → Hp → VK → Prop} (h : td σ H fun x H1 => ty σ H1 fun y H2 => ∃ a v, x = .ref a ∧ DGet H2 a y (some v) ∧
  tv σ H2 fun y2 H3 => rd v y2 H3 fun z H4 => ∃ H5, DPut H4 a y z H5 ∧ D.nx σ H5) : sDAug td ty tv rd D σ H := h
end
end U

/-! dicts of references, double comprehensions, defaults, repr -/
namespace U
open PySem PySem.Spec PyProof.Rows L2
abbrev kvG (ns : List Str) (F : Str → V) : List (Key × V) := ns.map fun n => (Sum.inr n, F n)
def updV {α : Type} (f : Str → α) (n : Str) (v : α) : Str → α := fun m => if m = n then v else f m
theorem kvG_val : ∀ {ns : List Str} {F : Str → V} {n : Str}, n ∈ ns → valV (kvG ns F) (.inr n) = some (F n)
  | m :: ns, F, n, h => by
    by_cases e : n = m
    · subst e
      rw [kvG, List.map_cons, valV_pos rfl]
    · have e' : ¬ (Sum.inr m : Key) = Sum.inr n := fun z => e (Sum.inr.inj z).symm
      rw [kvG, List.map_cons, valV_neg e']
      refine kvG_val ?_
      rcases List.mem_cons.mp h with z | z
      · exact absurd z e
      · exact z
theorem kvG_none : ∀ {ns : List Str} {F : Str → V} {n : Str}, n ∉ ns → valV (kvG ns F) (.inr n) = none
  | [], _, _, _ => rfl
  | m :: ns, F, n, h => by
    have e' : ¬ (Sum.inr m : Key) = Sum.inr n := fun z => h (by rw [← Sum.inr.inj z]; exact List.mem_cons_self)
    rw [kvG, List.map_cons, valV_neg e']
    exact kvG_none fun z => h (List.mem_cons_of_mem _ z)
theorem kvG_new {ns : List Str} {F : Str → V} {n : Str} {v : V} (h : n ∉ ns) : putK (kvG ns F) (.inr n) v = kvG (ns ++ [n]) (updV F n v) := by
  rw [putK_new _ (kvG_none h), kvG, kvG, List.map_append]
  congr 1
  · refine List.map_congr_left fun m hm => ?_
    unfold updV
    rw [if_neg (fun e => h (by rw [← e]; exact hm))]
  · show [((Sum.inr n : Key), v)] = [(Sum.inr n, updV F n v n)]
    unfold updV
    rw [if_pos rfl]
theorem kvG_at {ns : List Str} {F : Str → V} {i : Nat} {x y : V} (hx : ((kvG ns F)[i]?.map fun kv => kV kv.1) = some x) (hy : (kvG ns F)[i]?.map Prod.snd = some y) : ∃ hi : i < ns.length, x = .str ns[i] ∧ y = F ns[i] := by
  rw [kvG, List.getElem?_map] at hx hy
  by_cases hi : i < ns.length
  · rw [List.getElem?_eq_getElem hi] at hx hy
    exact ⟨hi, (Option.some.inj hx).symm, (Option.some.inj hy).symm⟩
  · rw [List.getElem?_eq_none (by omega)] at hx
    cases hx
/-! f(e, ..) where defaults fill the rest -/
structure CalD (P : Program) (w : World) (K : PySem.W.Frag) (mg : Str → Option Value) (base : Heap) (CX : CXT) (k : Nat) (x : Str) (dvs : List V) (sp : Sp) : Prop where
  ex : ∃ (f : Addr) (fd : FuncData) (ps : List Str) (ds : List Value), FnG P w K mg base CX k f fd ps sp ∧ mg x = some (.ref f) ∧ PySem.W.keepIn K (.ref f) = true ∧ Vals dvs ds ∧ Binds K fd ps ds
def tCD (sp : Sp) (dvs : List V) (E : XK) (t : TA) : TE := fun σ H Q => t σ H fun vs H1 => sp (vs ++ dvs) H1 Q E
theorem pe_cD {X : Cx} {CX : L2.CXT} {k j : Nat} {x : Str} {dvs : List V} {sp : Sp} {E : XK} {e : Expr} {es : List Expr} {t : TA} {p pos : Pos} (c : CalD X.prog X.w X.K X.mg X.base CX k x dvs sp) (hr : Rm j X.A) (hk : k ≤ j) (hg : Gl X x) (hx : Passes CX X E) (ha : PA X (e :: es) t)
    (hdb : (x == ("__debug__" : Str)) = false := by decide) (he : starEach (e :: es) X.env = (false, eval e X.env) :: starEach es X.env := by rfl) (hpl : (backTo pos (starEach es X.env)).any (·.1) = false := by rfl) :
    PE X (.Call (.Name x p) (e :: es) [] pos) (tCD sp dvs E t) := by
  obtain ⟨f, fd, ps, ds, F, hm, kp, rd, b⟩ := c.ex
  refine ⟨fun pins s σ H Q I h => wpAny_Call_Name_kw (ld_glob I hg hm ?_ hdb)⟩
  refine PySem.W.callWith_K (h₀ := X.base) I.ok.mod.kin kp (thn (ha.run pos pins s σ H _ I h) ?_) he hpl
  rintro us s1 ⟨vs, H1, I1, r, q⟩
  refine ⟨I1.kIn, ?_⟩
  have r2 : Vals (vs ++ dvs) (us ++ ds) := r.append rd
  have count : (us ++ ds).length = ps.length := r2.length ▸ F.len _ _ _ _ q
  have bd := b s1 us I1.kIn count
  refine wpAny_call (codeAny_mono (F.go X.A X.stack s1 H1 ⟨us, []⟩ (us ++ ds) (vs ++ dvs) Q E (hr.mono hk) I1.env0 bd r2 q) ?_)
  intro res s' hq
  cases res with
  | error er => exact hx pins σ H1 s1 er s' I1 hq
  | ok fl =>
    cases fl with
    | ret u => exact I1.after hq
    | next => exact hq.elim
    | brk => exact hq.elim
    | cont => exact hq.elim
/-! two fors in a comprehension -/
def In1 (J1 : It) (g1 : TG) (tt1 : TT) (te : TE) (vs1 : List Nat) (σ2 : L2.St) (D : Addr) (H4 : Hp) (R : Hp → Prop) : Prop := ∃ W1 : Nat → Nat → Hp → Prop, (∃ m, W1 0 m H4) ∧ ∀ j k H, W1 j k H →
  (J1.stop j H ∧ R H) ∨ (J1.go j H ∧ ∃ Nx1 : Hp → Prop, (∀ H', Nx1 H' → ∃ k', k' < k ∧ W1 (j + 1) k' H') ∧ ∀ x H', J1.yld j H x H' → g1 x (wipe σ2 vs1) H' fun σ3 H5 => wipe σ3 vs1 = wipe σ2 vs1 ∧ tt1 σ3 H5 fun b H6 =>
    if b = true then te σ3 H6 fun y H7 => ∃ acc, H7 D = some (.lst acc) ∧ acc.length < sizeLine ∧ Nx1 (upd H7 D (.lst (acc ++ [y]))) else Nx1 H6)
def Lc2B (J : It) (g : TG) (tt : TT) (wi1 : TI) (g1 : TG) (tt1 : TT) (te : TE) (vs vs1 : List Nat) (σ : L2.St) (H1 : Hp) (D : Addr) (Qd : Hp → Prop) : Prop := ∃ W : Nat → Nat → Hp → Prop, (∃ m, W 0 m (upd H1 D (.lst []))) ∧ ∀ i m H, W i m H →
  (J.stop i H ∧ Qd H) ∨ (J.go i H ∧ ∃ Nx : Hp → Prop, (∀ H', Nx H' → ∃ m', m' < m ∧ W (i + 1) m' H') ∧ ∀ x H', J.yld i H x H' → g x (wipe σ vs) H' fun σ2 H2 => wipe σ2 vs = wipe σ vs ∧ tt σ2 H2 fun b H3 =>
    if b = true then wi1 σ2 H3 fun J1 H4 => In1 J1 g1 tt1 te vs1 σ2 D H4 Nx else Nx H3)
section
variable {σ : L2.St} {H : Hp} {Q : VK} {te : TE} {g g1 : TG} {wi wi1 : TI} {tt tt1 : TT} {vs vs1 : List Nat} {L : Addr} {Qd R : Hp → Prop} {J J1 : It} {n : Nat} {G : Hp → Prop} {Y : Nat → Hp → V → Hp → Prop} {K : PySem.W.Frag}
theorem rd_lc2 (h : wi σ H fun J H1 => ∀ D, H1 D = none → Lc2B J g tt wi1 g1 tt1 te vs vs1 σ H1 D fun H2 => Q (.ref D) H2) : tLc2 wi g tt wi1 g1 tt1 te vs vs1 σ H Q := h
theorem rd_cd {sp : Sp} {dvs : List V} {E : XK} {t : TA} (h : t σ H fun vs H1 => sp (vs ++ dvs) H1 Q E) : tCD sp dvs E t σ H Q := h
end
/-! repr -/
section
variable {X : Cx} {pins : List (Addr × Obj)} {σ : L2.St} {H : Hp} {s : Shared}
def encK : Key → PyData
  | .inl i => .int i
  | .inr x => .str x
theorem kv_pairs {h : Heap} {f : Str → Int} : ∀ {ns : List Str} {vs : List (Key × Value)}, KV (kvF ns f) vs → PyProof.V.PairsRead h encK vs (ns.map fun n => (.str n, .int (f n))) []
  | [], vs, r => by
    cases r
    exact .nil
  | n :: ns, vs, r => by
    cases r with
    | @cons p q ps qs hpq t =>
      obtain ⟨h1, h2⟩ := hpq
      obtain ⟨k, v⟩ := q
      have h1' : (Sum.inr n : Key) = k := h1
      subst h1'
      obtain ⟨tk, rfl⟩ : ∃ t, v = Value.int (f n) t := h2
      exact .cons (k := .inr n) (as := []) (bs := []) (Reads.int _ _) (kv_pairs t)
theorem key_reads {h : Heap} {P : Program} {w : World} : ∀ (k : Key) (key : Value), (mixKind P w).is k key = true → Reads h key (encK k) [] := by
  intro k key hk
  rcases keyIs_shape hk with ⟨i, t, rfl, rfl⟩ | ⟨x, t, rfl, rfl⟩
  · exact Reads.int _ _
  · exact Reads.str _ _
end
end U
namespace U
open PySem PySem.Spec PyProof.Rows L2
/-! name = {k: v for ..}, the name a local -/
abbrev InBlk (X : Cx) (scope : Scope) (Φ : Cx → Prop) : Prop :=
  ∀ (s : Shared) (H : Hp) (C : Addr) (cl : List (Str × Addr)) (fp : List Addr), Φ (X.blk s H scope (compEnvC scope cl C X.env) fp)
section
variable {X : Cx}
theorem sw_dict {kx vx : Expr} {gs : List Comprehension} {scope : Scope} {pos py : Pos} {y : Str} {l : Nat} {env : Env}
    (hk : env.scope.kind = .function) (hy : env.scope.names.lookup y = some .local) (hl : (py.line == pos.line) = true)
    (ha : (scope.names.any fun (n, k) => n == y && (k == .local || k == .cell)) = false) :
    swapsWith (.DictComp kx vx gs scope pos) (some (.Name y py)) l env = pure true := by
  have q1 : env.kindOf y = some .local := hy
  have q2 : env.blockKind = .function := by
    unfold Env.blockKind
    rw [hk]
    rfl
  unfold swapsWith
  simp only [q1, q2, ha, hl, Expr.pos]
  rfl
theorem ps_setDc {i : Nat} {y : Str} {py : Pos} {kx vx tg iter : Expr} {ifs : List Expr} {scope : Scope} {own : List (Str × Nat)} {pos spos : Pos} {wi : TI} {g : TG} {tt : TT} {tk tv : TE}
    (hc : X.calm = true) (hN : X.N.Nodup) (hy : X.N[i]? = some y) (hyl : X.env.scope.names.lookup y = some .local)
    (hsw : swapsWith (.DictComp kx vx [⟨tg, iter, ifs, 0⟩] scope pos) (some (.Name y py)) spos.line X.env = pure true) (hi : PI X tg iter wi) (ok : BlkOk X.N X.env.scope scope own)
    (hg : InBlk X scope fun Y => PG Y tg g) (ht : InBlk X scope fun Y => PTs Y ifs tt) (hk : InBlk X scope fun Y => PE Y kx tk) (he : InBlk X scope fun Y => PE Y vx tv)
    (hs : ∀ x, foldedSetIterable iter X.env x = pure x := by intro _; rfl) :
    PS X (.Assign [.Name y py] (.DictComp kx vx [⟨tg, iter, ifs, 0⟩] scope pos) spos) (tAsg (tDc wi g tt tk tv (own.map (·.2))) (gName i)) := by
  refine ⟨fun pins s σ H D I want => ?_⟩
  rw [exec_Assign_Name_used _ _ _ _ hsw]
  refine wpAny_bind (wpAny_standAt (wpAny_bind ?_))
  have want : tDc wi g tt tk tv (own.map (·.2)) σ H fun x H1 => gName i x σ H1 D.nx := want
  show wpAny _ X.A (do
    let _ ← comprehension (.DictComp kx vx [⟨tg, iter, ifs, 0⟩] scope pos) scope X.env (firstIterPos [⟨tg, iter, ifs, 0⟩] pos) newDict false (eval iter X.env) (some (assign (.Name y py) X.env))) _ _ s
  refine wpAny_bind (thn (dc_core (Qf := fun _ s' => SP X pins D .next s') hc hN I hi ok hg ht hk he hs want fun L C s' m H' J q hn fpo => ?_) fun _ s' done => wpAny_pure (wpAny_pure done))
  show wpAny _ _ (assign (.Name y py) X.env (.ref L)) _ _ _
  refine wpAny_assign_Name (store_ok2 (v := V.ref L) J hN hy (.inl hyl) rfl (fun s2 J2 ⟨a, sb, ha⟩ => ?_) (.inr hyl))
  obtain ⟨p0, p1, p2, p3, p4, p5⟩ := fpo
  have apart : C ≠ a := by
    cases ha with
    | inl z => rw [z]; exact p1
    | inr z => exact fun e => p4 y a z e.symm
  refine ⟨m, hn.sameBut sb apart, fun h3 sb3 => ⟨_, H', J2.turned (t' := s2.toks) (fun b o hb e => (sb3.2 b hb).trans e) p0 p1 p3 p4 p5, q⟩⟩
end
end U

/-! d.update(e); lists of texts compared; the last but one -/
namespace U
open PySem PySem.Spec PyProof.Rows L2
/-! lists of texts compared -/
section
variable {K : PySem.W.Frag} {H : Hp} {Q : VK} {p q : Addr} {x y : V} {d : PyData} {xs ys : List Str}
end
end U

/-! components, root paths, basis cycles: the plain law -/
namespace U
open PySem PySem.Spec PyProof.Rows L2
abbrev ptF (es : List (Str × Str)) (x : Str) : List (Str × List Str) := pathsF (nbS es) (fun _ _ => true) x
abbrev Con (es : List (Str × Str)) (x y : Str) : Prop := Reach (nbS es) (fun _ _ => true) x y
section
variable {ns : List Str} {es : List (Str × Str)} {x y : Str}
theorem con_symm (h : Con es x y) : Con es y x := by
  induction h with
  | refl => exact .refl
  | step _ m _ ih =>
    refine Reach.trans (.step .refl ?_ rfl) ih
    exact nbS_mem.mpr ((nbS_mem.mp m).symm)
theorem pt_mem (ok : GrOk ns es) (l : ns.length ≤ 1000) (hx : x ∈ ns) : y ∈ keysF (ptF es x) ↔ Con es x y :=
  ⟨fun h => stF_reach h, fun h => stF_all (by have := stF_len (ok := fun _ _ => true) (adj := nbS es) (ns := ns) (fun a _ b hb => nbS_in ok hb) hx 1000; omega) h⟩
theorem pt_nodup : (keysF (ptF es x)).Nodup := stF_nodup 1000
theorem pt_in (ok : GrOk ns es) (hx : x ∈ ns) (h : y ∈ keysF (ptF es x)) : y ∈ ns := reach_mem (fun a _ b hb => nbS_in ok hb) hx (stF_reach h)
def comp (es : List (Str × Str)) (x : Str) : List Str := sortS (keysF (ptF es x))
theorem comp_mem (ok : GrOk ns es) (l : ns.length ≤ 1000) (hx : x ∈ ns) : y ∈ comp es x ↔ Con es x y := by
  unfold comp
  rw [(sortS_perm _).mem_iff, pt_mem ok l hx]
def compStep (es : List (Str × Str)) (cs : List (List Str)) (n : Str) : List (List Str) := if n ∈ cs.flatten then cs else cs ++ [comp es n]
/-- components found from the nodes ds, all in ns -/
structure Cmps (ns : List Str) (es : List (Str × Str)) (ds : List Str) (cs : List (List Str)) : Prop where
  of : ∀ c ∈ cs, ∃ r ∈ ns, c = comp es r
  nd : cs.flatten.Nodup
  all : ∀ x ∈ ds, x ∈ cs.flatten
theorem Cmps.nil : Cmps ns es [] [] := ⟨(fun c hc => nomatch hc), List.nodup_nil, (fun x hx => nomatch hx)⟩
theorem Cmps.in_ {ds : List Str} {cs : List (List Str)} (h : Cmps ns es ds cs) (ok : GrOk ns es) : ∀ x ∈ cs.flatten, x ∈ ns := fun x hx => by
  obtain ⟨c, hc, hx⟩ := List.mem_flatten.mp hx
  obtain ⟨r, hr, rfl⟩ := h.of c hc
  exact pt_in ok hr ((sortS_perm _).mem_iff.mp hx)
theorem Cmps.step {ds : List Str} {cs : List (List Str)} {n : Str} (h : Cmps ns es ds cs) (ok : GrOk ns es) (l : ns.length ≤ 1000) (hn : n ∈ ns) : Cmps ns es (ds ++ [n]) (compStep es cs n) := by
  unfold compStep
  by_cases m : n ∈ cs.flatten
  · rw [if_pos m]
    refine ⟨h.of, h.nd, fun x hx => ?_⟩
    rcases List.mem_append.mp hx with hx | hx
    · exact h.all x hx
    · rw [List.mem_singleton] at hx
      rw [hx]
      exact m
  · rw [if_neg m]
    refine ⟨fun c hc => ?_, ?_, fun x hx => ?_⟩
    · rcases List.mem_append.mp hc with hc | hc
      · exact h.of c hc
      · rw [List.mem_singleton] at hc
        exact ⟨n, hn, hc⟩
    · rw [List.flatten_append, List.nodup_append]
      refine ⟨h.nd, ?_, fun a ha b hb z => ?_⟩
      · rw [List.flatten_singleton]
        exact (sortS_perm _).nodup_iff.mpr pt_nodup
      · rw [List.flatten_singleton] at hb
        subst z
        obtain ⟨c, hc, ha⟩ := List.mem_flatten.mp ha
        obtain ⟨r, hr, rfl⟩ := h.of c hc
        have h1 := (comp_mem ok l hr).mp ha
        have h2 := (comp_mem ok l hn).mp hb
        exact m (List.mem_flatten.mpr ⟨_, hc, (comp_mem ok l hr).mpr (h1.trans (con_symm h2))⟩)
    · rw [List.flatten_append, List.flatten_singleton]
      rcases List.mem_append.mp hx with hx | hx
      · exact List.mem_append_left _ (h.all x hx)
      · rw [List.mem_singleton] at hx
        subst hx
        exact List.mem_append_right _ ((comp_mem ok l hn).mpr .refl)
theorem Cmps.len {ds : List Str} {cs : List (List Str)} (h : Cmps ns es ds cs) (ok : GrOk ns es) : cs.flatten.length ≤ ns.length := nodup_len h.nd (h.in_ ok)
/-! root paths -/
end
end U

/-! sums of slopes along walks: the plain law -/
namespace U
open PySem PySem.Spec PyProof.Rows L2
def Adj (es : List (Str × Str)) (a b : Str) : Prop := (a, b) ∈ es ∨ (b, a) ∈ es
theorem Adj.symm {es : List (Str × Str)} {a b : Str} (h : Adj es a b) : Adj es b a := Or.symm h
def Wk (es : List (Str × Str)) : List Str → Prop
  | a :: b :: r => Adj es a b ∧ Wk es (b :: r)
  | _ => True
/-- the slopes along a list -/
def psl (f : Str → Int) : List Str → List Int
  | a :: b :: r => slp f a b :: psl f (b :: r)
  | _ => []
def psum (f : Str → Int) (p : List Str) : Int := (psl f p).sum
theorem psum_cons {f : Str → Int} {a b : Str} {r : List Str} : psum f (a :: b :: r) = slp f a b + psum f (b :: r) := by
  unfold psum
  rw [psl, List.sum_cons]
theorem psum_one {f : Str → Int} {a : Str} : psum f [a] = 0 := rfl
theorem Wk.join {es : List (Str × Str)} : ∀ {p r : List Str} {x : Str}, p.getLast? = some x → Wk es p → Wk es (x :: r) → Wk es (p ++ r)
  | [], _, _, h, _, _ => nomatch h
  | [a], r, x, h, _, w => by
    have : a = x := by simpa using h
    subst this
    exact w
  | a :: b :: q, r, x, h, w1, w2 => by
    have h' : (b :: q).getLast? = some x := by rw [List.getLast?_cons_cons] at h; exact h
    exact ⟨w1.1, Wk.join (p := b :: q) h' w1.2 w2⟩
theorem Wk.snoc {es : List (Str × Str)} {p : List Str} {x b : Str} (h : p.getLast? = some x) (w : Wk es p) (a : Adj es x b) : Wk es (p ++ [b]) := w.join h ⟨a, trivial⟩
theorem Wk.left {es : List (Str × Str)} : ∀ {p r : List Str}, Wk es (p ++ r) → Wk es p
  | [], _, _ => trivial
  | [_], _, _ => trivial
  | a :: b :: q, r, w => ⟨w.1, Wk.left (p := b :: q) (r := r) w.2⟩
theorem Wk.tail {es : List (Str × Str)} {a : Str} {p : List Str} (w : Wk es (a :: p)) : Wk es p := by
  cases p with
  | nil => trivial
  | cons b r => exact w.2
theorem Wk.right {es : List (Str × Str)} : ∀ {p r : List Str}, Wk es (p ++ r) → Wk es r
  | [], _, w => w
  | a :: q, r, w => Wk.right (p := q) (r := r) (Wk.tail w)
theorem Wk.rev {es : List (Str × Str)} : ∀ {p : List Str}, Wk es p → Wk es p.reverse
  | [], _ => trivial
  | [_], _ => trivial
  | a :: b :: r, w => by
    have ih := Wk.rev (p := b :: r) w.2
    rw [List.reverse_cons]
    refine ih.snoc (x := b) ?_ w.1.symm
    rw [List.reverse_cons, List.getLast?_append]
    simp
section
variable {ns : List Str} {es : List (Str × Str)} {f : Str → Int}
theorem slp_neg (ok : EsOk ns es f) {a b : Str} (h : Adj es a b) : slp f b a = - slp f a b := by
  have ha : a ∈ ns ∧ b ∈ ns ∧ f a ≠ f b := by
    rcases h with h | h
    · exact ⟨(ok.mem _ h).1, (ok.mem _ h).2, ok.pro _ h⟩
    · exact ⟨(ok.mem _ h).2, (ok.mem _ h).1, fun z => ok.pro _ h z.symm⟩
  have t1 := ok.tri a ha.1
  have t2 := ok.tri b ha.2.1
  have ne := ha.2.2
  unfold slp
  split <;> split <;> omega
theorem slp_mod (ok : EsOk ns es f) {a b : Str} (h : Adj es a b) : slp f a b % 3 = (f b - f a) % 3 := by
  have ha : a ∈ ns ∧ b ∈ ns ∧ f a ≠ f b := by
    rcases h with h | h
    · exact ⟨(ok.mem _ h).1, (ok.mem _ h).2, ok.pro _ h⟩
    · exact ⟨(ok.mem _ h).2, (ok.mem _ h).1, fun z => ok.pro _ h z.symm⟩
  have t1 := ok.tri a ha.1
  have t2 := ok.tri b ha.2.1
  have ne := ha.2.2
  unfold slp
  split <;> omega
/-- two states apart by the numbers h -/
theorem psum_lift {g h : Str → Int} (okf : EsOk ns es f) (okg : EsOk ns es g) (t : ∀ e ∈ es, slp f e.1 e.2 - slp g e.1 e.2 = 2 * (h e.1 - h e.2)) : ∀ {p : List Str} {a b : Str}, Wk es p → p.head? = some a → p.getLast? = some b → psum f p - psum g p = 2 * (h a - h b)
  | [], _, _, _, h, _ => nomatch h
  | [x], a, b, _, h, k => by
    have h1 : x = a := by simpa using h
    have h2 : x = b := by simpa using k
    subst h1
    subst h2
    rw [psum_one, psum_one]
    omega
  | x :: y :: r, a, b, w, k1, k => by
    have h1 : x = a := by simpa using k1
    subst h1
    have k' : (y :: r).getLast? = some b := by rw [List.getLast?_cons_cons] at k; exact k
    have ih := psum_lift okf okg t (p := y :: r) (a := y) w.2 rfl k'
    rw [psum_cons, psum_cons]
    have m : slp f x y - slp g x y = 2 * (h x - h y) := by
      rcases w.1 with q | q
      · exact t _ q
      · have := t _ q
        have n1 := slp_neg okf (.inl q)
        have n2 := slp_neg okg (.inl q)
        simp only at this
        omega
    omega
end
/-! ### the paths found are walks -/
theorem PathTo.wk {es : List (Str × Str)} {ok : Str → Str → Bool} {root x : Str} {p : List Str} (h : PathTo (nbS es) ok root x p) : Wk es p ∧ p.head? = some root ∧ p.getLast? = some x := by
  induction h with
  | one => exact ⟨trivial, rfl, rfl⟩
  | @snoc a b p _ m o ih =>
    obtain ⟨h1, h2, h3⟩ := ih
    refine ⟨h1.snoc h3 (nbS_mem.mp m), ?_, by simp⟩
    cases p with
    | nil => cases h2
    | cons _ _ => exact h2
/-! ### basis cycles -/
def pth (kp : List (Str × List Str)) (x : Str) : List Str := (kp.lookup x).getD []
theorem lookup_some : ∀ {kp : List (Str × List Str)} {x : Str}, x ∈ keysF kp → ∃ p, kp.lookup x = some p ∧ (x, p) ∈ kp
  | y :: r, x, h => by
    rw [List.lookup_cons]
    by_cases e : x = y.1
    · subst e
      rw [show (y.1 == y.1) = true from beq_self_eq_true _]
      exact ⟨y.2, rfl, List.mem_cons_self⟩
    · rw [show (x == y.1) = false from beq_eq_false_iff_ne.mpr e]
      have : x ∈ keysF r := by
        rcases List.mem_cons.mp h with z | z
        · exact absurd z e
        · exact z
      obtain ⟨p, h1, h2⟩ := lookup_some this
      exact ⟨p, h1, List.mem_cons_of_mem _ h2⟩
section
variable {ns : List Str} {es : List (Str × Str)}
end
end U

/-! rising cycles, feasible lifts, progress: the plain law -/
namespace U
open PySem PySem.Spec PyProof.Rows L2
def slOk (f : Str → Int) (dir : Int) (a b : Str) : Bool := decide (slp f a b = dir)
abbrev Rr (es : List (Str × Str)) (f : Str → Int) (dir : Int) (x y : Str) : Prop := Reach (nbS es) (slOk f dir) x y
/-- x is on a rising (falling) cycle -/
def CycD (es : List (Str × Str)) (f : Str → Int) (dir : Int) (x : Str) : Prop := ∃ y, Adj es y x ∧ slp f y x = dir ∧ Rr es f dir x y
abbrev Cyc (es : List (Str × Str)) (f : Str → Int) (x : Str) : Prop := CycD es f 1 x
section
variable {ns : List Str} {es : List (Str × Str)} {f : Str → Int} {dir : Int}
theorem rr_step {a b : Str} (h : Adj es a b) (k : slp f a b = dir) : Rr es f dir a b := .step .refl (nbS_mem.mpr h) (decide_eq_true k)
theorem rr_snoc {a b c : Str} (r : Rr es f dir a b) (h : Adj es b c) (k : slp f b c = dir) : Rr es f dir a c := .step r (nbS_mem.mpr h) (decide_eq_true k)
theorem rr_first {x y : Str} (r : Rr es f dir x y) : y = x ∨ ∃ z, Adj es x z ∧ slp f x z = dir ∧ Rr es f dir z y := by
  induction r with
  | refl => exact .inl rfl
  | @step a b _ m o ih =>
    have o' := of_decide_eq_true o
    have m' := nbS_mem.mp m
    rcases ih with rfl | ⟨z, h1, h2, h3⟩
    · exact .inr ⟨b, m', o', .refl⟩
    · exact .inr ⟨z, h1, h2, .step h3 m o⟩
theorem rr_last {x y : Str} (r : Rr es f dir x y) : y = x ∨ ∃ z, Adj es z y ∧ slp f z y = dir ∧ Rr es f dir x z := by
  cases r with
  | refl => exact .inl rfl
  | step r m o => exact .inr ⟨_, nbS_mem.mp m, of_decide_eq_true o, r⟩
/-- what lies on the way of a cycle is on a cycle -/
theorem cyc_on {x w y : Str} (r1 : Rr es f dir x w) (r2 : Rr es f dir w y) (h : Adj es y x) (k : slp f y x = dir) : CycD es f dir w := by
  rcases rr_last r1 with e | ⟨z, z1, z2, z3⟩
  · rw [e] at r2 ⊢
    exact ⟨y, h, k, r2⟩
  · exact ⟨z, z1, z2, (rr_snoc r2 h k).trans z3⟩
theorem adj_in (ok : EsOk ns es f) {a b : Str} (h : Adj es a b) : a ∈ ns ∧ b ∈ ns ∧ f a ≠ f b ∧ a ≠ b := by
  have m : a ∈ ns ∧ b ∈ ns ∧ f a ≠ f b := by
    rcases h with h | h
    · exact ⟨(ok.mem _ h).1, (ok.mem _ h).2, ok.pro _ h⟩
    · exact ⟨(ok.mem _ h).2, (ok.mem _ h).1, fun z => ok.pro _ h z.symm⟩
  exact ⟨m.1, m.2.1, m.2.2, fun z => m.2.2 (by rw [z])⟩
/-- a node on a cycle has no move -/
theorem cyc_still (ok : EsOk ns es f) {pn : List Str} {m : Str × Int} (l : Legal ns es f pn m) : ¬ Cyc es f m.1 := by
  rintro ⟨y, h, k, r⟩
  have ay := adj_in ok h
  rcases rr_first r with e | ⟨z, h1, h2, _⟩
  · exact ay.2.2.2 e
  have az := adj_in ok h1
  have ty := ok.tri y ay.1
  have tx := ok.tri _ ay.2.1
  have tz := ok.tri z az.2.1
  have n1 := l.nbr y (.symm h)
  have n2 := l.nbr z h1
  have n3 := l.own
  have tv := l.val
  have e1 : (f m.1 - f y) % 3 = 1 := by
    unfold slp at k
    split at k
    · assumption
    · cases k
  have e2 : (f z - f m.1) % 3 = 1 := by
    unfold slp at h2
    split at h2
    · assumption
    · cases h2
  have d1 := ay.2.2.1
  have d2 := az.2.2.1
  omega
theorem slp_off {n : Str} {v : Int} {a b : Str} (ha : a ≠ n) (hb : b ≠ n) : slp (updf f n v) a b = slp f a b := by
  unfold slp updf
  rw [if_neg ha, if_neg hb]
/-- cycles stay -/
theorem cyc_move (ok : EsOk ns es f) {pn : List Str} {m : Str × Int} (l : Legal ns es f pn m) {x : Str} (c : Cyc es f x) : Cyc es (updf f m.1 m.2) x := by
  obtain ⟨y, h, k, r⟩ := c
  have st := cyc_still ok l
  have off : ∀ w, Rr es f 1 x w → Rr es f 1 w y → w ≠ m.1 := fun w r1 r2 z => st (by rw [← z]; exact cyc_on r1 r2 h k)
  have walk : ∀ w, Rr es f 1 x w → Rr es f 1 w y → Rr es (updf f m.1 m.2) 1 x w := by
    intro w r1
    induction r1 with
    | refl => intro _; exact .refl
    | @step a b r1 mm o ih =>
      intro r2
      have o' := of_decide_eq_true o
      have m' := nbS_mem.mp mm
      have r2' : Rr es f 1 a y := (rr_step m' o').trans r2
      refine rr_snoc (ih r2') m' ?_
      rw [slp_off (off a r1 r2') (off b (.step r1 mm o) r2)]
      exact o'
  refine ⟨y, h, ?_, walk y r .refl⟩
  rw [slp_off (off y r .refl) (off x .refl r)]
  exact k
theorem legal_back (ok : EsOk ns es f) {pn : List Str} {m : Str × Int} (l : Legal ns es f pn m) : Legal ns es (updf f m.1 m.2) pn (m.1, f m.1) := by
  have own : f m.1 ≠ updf f m.1 m.2 m.1 := by
    unfold updf
    rw [if_pos rfl]
    exact fun z => l.own z.symm
  refine ⟨l.mem, l.pin, ok.tri _ l.mem, own, fun z hz => ?_⟩
  have a := adj_in ok (show Adj es m.1 z from hz)
  show f m.1 ≠ updf f m.1 m.2 z
  unfold updf
  rw [if_neg (Ne.symm a.2.2.2)]
  exact a.2.2.1
theorem updf_undo {n : Str} {v : Int} : updf (updf f n v) n (f n) = f := by
  funext x
  unfold updf
  by_cases e : x = n
  · rw [if_pos e, e]
  · rw [if_neg e, if_neg e]
theorem cyc_iff (ok : EsOk ns es f) {pn : List Str} {m : Str × Int} (l : Legal ns es f pn m) {x : Str} : Cyc es (updf f m.1 m.2) x ↔ Cyc es f x := by
  refine ⟨fun c => ?_, cyc_move ok l⟩
  have ok' := (move_keeps (f0 := f) (h := fun _ => 0) ok l fun e _ => by omega).1
  have := cyc_move ok' (legal_back ok l) c
  rw [updf_undo] at this
  exact this
/-! ### feasible lifts -/
structure Feas (ns : List Str) (es : List (Str × Str)) (f h : Str → Int) (pn : List Str) : Prop where
  fit : Fits es f h
  pin : ∀ x ∈ pn, h x = 0
  cyc : ∀ x, Cyc es f x → h x = 0
theorem fit_pm {a b : Str} : fitB f h a b = true ↔ slp f a b - 2 * (h a - h b) = 1 ∨ slp f a b - 2 * (h a - h b) = -1 := by
  rw [fit_iff]
  rcases slp_pm f a b with e | e
  · rw [if_pos e, e]
    omega
  · rw [if_neg (by rw [e]; decide), e]
    omega
/-- a move, and one less to go -/
theorem feas_move (ok : EsOk ns es f) {pn : List Str} {h : Str → Int} {m : Str × Int} (fe : Feas ns es f h pn) (l : Legal ns es f pn m) : Feas ns es (updf f m.1 m.2) (updf h m.1 (h m.1 - dlt (f m.1 - m.2))) pn := by
  have mk := (move_keeps (f0 := f) (h := fun _ => 0) ok l fun e _ => by omega).2
  have ne : ∀ x, Cyc es f x ∨ x ∈ pn → x ≠ m.1 := fun x hx z => by
    rcases hx with c | c
    · rw [z] at c
      exact cyc_still ok l c
    · rw [z] at c
      exact l.pin c
  refine ⟨fun e he => ?_, fun x hx => ?_, fun x hx => ?_⟩
  · have a := fit_pm.mp (fe.fit e he)
    have b := mk e he
    rw [fit_pm]
    have u1 : ∀ x, updf h m.1 (h m.1 - dlt (f m.1 - m.2)) x = h x - updf (fun _ => 0) m.1 (0 + dlt (f m.1 - m.2)) x := fun x => by
      unfold updf
      by_cases z : x = m.1
      · rw [if_pos z, if_pos z, z]
        omega
      · rw [if_neg z, if_neg z]
        show h x = h x - 0
        omega
    rw [u1, u1]
    omega
  · unfold updf
    rw [if_neg (ne x (.inr hx))]
    exact fe.pin x hx
  · have c := (cyc_iff ok l).mp hx
    unfold updf
    rw [if_neg (ne x (.inl c))]
    exact fe.cyc x c
/-! ### progress -/
noncomputable def anc (ns : List Str) (es : List (Str × Str)) (f : Str → Int) (dir : Int) (s : Str) : List Str := by
  classical
  exact ns.filter fun z => decide (Rr es f dir z s)
theorem cyc_of_pred (ok : EsOk ns es f) (nd : ns.Nodup) {S : Str → Prop} (sn : ∀ s, S s → s ∈ ns) (pred : ∀ s, S s → ∃ y, S y ∧ Adj es y s ∧ slp f y s = dir) : ∀ (k : Nat) (s : Str), S s → (anc ns es f dir s).length ≤ k → ∃ s, S s ∧ CycD es f dir s := by
  classical
  intro k
  induction k with
  | zero =>
    intro s hs hk
    have : s ∈ anc ns es f dir s := List.mem_filter.mpr ⟨sn s hs, decide_eq_true .refl⟩
    have := List.length_pos_of_mem this
    omega
  | succ k ih =>
    intro s hs hk
    obtain ⟨y, hy, a, e⟩ := pred s hs
    by_cases r : Rr es f dir s y
    · exact ⟨s, hs, y, a, e, r⟩
    · refine ih y hy ?_
      have ndy : (anc ns es f dir y).Nodup := List.Nodup.sublist List.filter_sublist nd
      have : (s :: anc ns es f dir y).length ≤ (anc ns es f dir s).length := nodup_len (List.nodup_cons.mpr ⟨fun z => r (of_decide_eq_true (List.mem_filter.mp z).2), ndy⟩) fun x hx => by
        rcases List.mem_cons.mp hx with rfl | hx
        · exact List.mem_filter.mpr ⟨sn x hs, decide_eq_true .refl⟩
        · obtain ⟨h1, h2⟩ := List.mem_filter.mp hx
          exact List.mem_filter.mpr ⟨h1, decide_eq_true (rr_snoc (of_decide_eq_true h2) a e)⟩
      rw [List.length_cons] at this
      omega
theorem rr_rev (ok : EsOk ns es f) {x y : Str} (r : Rr es f (-1) x y) : Rr es f 1 y x := by
  induction r with
  | refl => exact .refl
  | @step a b _ m o ih =>
    have o' := of_decide_eq_true o
    have m' := nbS_mem.mp m
    refine (rr_step m'.symm ?_).trans ih
    rw [slp_neg ok m', o']
    rfl
theorem cyc_rev (ok : EsOk ns es f) {x : Str} (c : CycD es f (-1) x) : Cyc es f x := by
  obtain ⟨y, h, k, r⟩ := c
  have r1 := rr_rev ok r
  have k1 : slp f x y = 1 := by
    rw [slp_neg ok h, k]
    rfl
  rcases rr_last r1 with e | ⟨z, z1, z2, z3⟩
  · rw [e] at h
    exact absurd rfl (adj_in ok h).2.2.2
  · exact ⟨z, z1, z2, (rr_step h.symm k1).trans z3⟩
theorem max_at {h : Str → Int} : ∀ {xs : List Str} {x : Str}, x ∈ xs → ∃ m ∈ xs, ∀ y ∈ xs, h y ≤ h m
  | [a], x, hx => ⟨a, List.mem_cons_self, fun y hy => by rw [List.mem_singleton] at hy; rw [hy]; exact Int.le_refl _⟩
  | a :: b :: r, x, _ => by
    obtain ⟨m, hm, k⟩ := max_at (h := h) (xs := b :: r) (x := b) List.mem_cons_self
    by_cases c : h a ≤ h m
    · exact ⟨m, List.mem_cons_of_mem _ hm, fun y hy => by
        rcases List.mem_cons.mp hy with rfl | hy
        · exact c
        · exact k y hy⟩
    · exact ⟨a, List.mem_cons_self, fun y hy => by
        rcases List.mem_cons.mp hy with rfl | hy
        · exact Int.le_refl _
        · have := k y hy
          omega⟩
/-- a node with a positive number, all of its neighbours above it -/
theorem up_exists (ok : EsOk ns es f) (nd : ns.Nodup) {pn : List Str} {h : Str → Int} (fe : Feas ns es f h pn) {x : Str} (hx : x ∈ ns) (h0 : 0 < h x) : ∃ n ∈ ns, 0 < h n ∧ ∀ y, Adj es n y → slp f n y = 1 := by
  obtain ⟨m, hm, k⟩ := max_at (h := h) hx
  have hm0 : 0 < h m := by
    have := k x hx
    omega
  by_cases c : ∃ n ∈ ns, h n = h m ∧ ∀ y, Adj es n y → slp f n y = 1
  · obtain ⟨n, n1, n2, n3⟩ := c
    exact ⟨n, n1, by omega, n3⟩
  exfalso
  obtain ⟨s, ⟨_, s2⟩, c2⟩ := cyc_of_pred (dir := 1) ok nd (S := fun s => s ∈ ns ∧ h s = h m) (fun s hs => hs.1) (fun s hs => by
    have : ∃ y, Adj es s y ∧ slp f s y ≠ 1 := Classical.byContradiction fun z => c ⟨s, hs.1, hs.2, fun y hy => Classical.byContradiction fun z2 => z ⟨y, hy, z2⟩⟩
    obtain ⟨y, a, ne⟩ := this
    have e : slp f s y = -1 := (slp_pm f s y).resolve_left ne
    have e2 : slp f y s = 1 := by rw [slp_neg ok a, e]; rfl
    have yn := (adj_in ok a).2.1
    refine ⟨y, ⟨yn, ?_⟩, a.symm, e2⟩
    have ky := k y yn
    have hs2 := hs.2
    rcases a with a | a
    · have := fit_pm.mp (fe.fit _ a)
      simp only [e] at this
      omega
    · have := fit_pm.mp (fe.fit _ a)
      simp only [e2] at this
      omega) _ m ⟨hm, rfl⟩ (Nat.le_refl _)
  have := fe.cyc s c2
  omega
theorem down_exists (ok : EsOk ns es f) (nd : ns.Nodup) {pn : List Str} {h : Str → Int} (fe : Feas ns es f h pn) {x : Str} (hx : x ∈ ns) (h0 : h x < 0) : ∃ n ∈ ns, h n < 0 ∧ ∀ y, Adj es n y → slp f n y = -1 := by
  obtain ⟨m, hm, k⟩ := max_at (h := fun z => - h z) hx
  have hm0 : h m < 0 := by
    have := k x hx
    omega
  by_cases c : ∃ n ∈ ns, h n = h m ∧ ∀ y, Adj es n y → slp f n y = -1
  · obtain ⟨n, n1, n2, n3⟩ := c
    exact ⟨n, n1, by omega, n3⟩
  exfalso
  obtain ⟨s, ⟨_, s2⟩, c2⟩ := cyc_of_pred (dir := -1) ok nd (S := fun s => s ∈ ns ∧ h s = h m) (fun s hs => hs.1) (fun s hs => by
    have : ∃ y, Adj es s y ∧ slp f s y ≠ -1 := Classical.byContradiction fun z => c ⟨s, hs.1, hs.2, fun y hy => Classical.byContradiction fun z2 => z ⟨y, hy, z2⟩⟩
    obtain ⟨y, a, ne⟩ := this
    have e : slp f s y = 1 := (slp_pm f s y).resolve_right ne
    have e2 : slp f y s = -1 := by rw [slp_neg ok a, e]
    have yn := (adj_in ok a).2.1
    refine ⟨y, ⟨yn, ?_⟩, a.symm, e2⟩
    have ky := k y yn
    have hs2 := hs.2
    rcases a with a | a
    · have := fit_pm.mp (fe.fit _ a)
      simp only [e] at this
      omega
    · have := fit_pm.mp (fe.fit _ a)
      simp only [e2] at this
      omega) _ m ⟨hm, rfl⟩ (Nat.le_refl _)
  have := fe.cyc s (cyc_rev ok c2)
  omega
end
end U

/-! progress moves: the plain law -/
namespace U
open PySem PySem.Spec PyProof.Rows L2
def sz (ns : List Str) (h : Str → Int) : Int := (ns.map fun n => ((h n).natAbs : Int)).sum
def goP (f h : Str → Int) (m : Str × Int) : Bool := decide (0 < h m.1) && decide ((f m.1 - m.2) % 3 = 1) || decide (h m.1 < 0) && !decide ((f m.1 - m.2) % 3 = 1)
def progF (ns : List Str) (es : List (Str × Str)) (f h : Str → Int) (pn : List Str) : List (Str × Int) := (movesF ns es f pn).filter (goP f h)
def dirU (x : Int) : Int := if 0 < x then 1 else -1
/-- the value of a progress move -/
def pvF (f : Str → Int) (ys : List Str) (n : Str) (x : Int) : Option Int := if x ≠ 0 ∧ ∀ o ∈ ys, slp f n o = dirU x then some ((f n - dirU x) % 3) else none
def pmF (es : List (Str × Str)) (f h : Str → Int) (pn : List Str) (n : Str) : List (Str × Int) := match pvF f (nbS es n) n (h n) with
  | none => []
  | some v => if n ∈ pn then [] else [(n, v)]
theorem three {q : Int → Bool} {v0 : Int} {c : Bool} (h0 : 0 ≤ v0) (h2 : v0 ≤ 2) (h : ∀ v, 0 ≤ v → v ≤ 2 → q v = (decide (v = v0) && c)) : ([0, 1, 2] : List Int).filter q = if c = true then [v0] else [] := by
  have a := h 0 (by decide) (by decide)
  have b := h 1 (by decide) (by decide)
  have d := h 2 (by decide) (by decide)
  have e : v0 = 0 ∨ v0 = 1 ∨ v0 = 2 := by omega
  rcases e with rfl | rfl | rfl <;> cases c <;> simp_all [List.filter_cons]
section
variable {ns : List Str} {es : List (Str × Str)} {f h : Str → Int} {pn : List Str}
theorem prog_at (ok : EsOk ns es f) {n : Str} (hn : n ∈ ns) : (movesOf es f n).filter (goP f h) = match pvF f (nbS es n) n (h n) with
  | none => []
  | some v => [(n, v)] := by
  classical
  have tri := ok.tri n hn
  have nbr : ∀ o ∈ nbrF es n, 0 ≤ f o ∧ f o < 3 ∧ f n ≠ f o := fun o ho => by
    have a := adj_in ok (show Adj es n o from mem_nbrF.mp ho)
    exact ⟨(ok.tri o a.2.1).1, (ok.tri o a.2.1).2, a.2.2.1⟩
  have nbm : ∀ o, o ∈ nbS es n ↔ o ∈ nbrF es n := fun o => nbS_mem.trans mem_nbrF.symm
  have slo : ∀ o ∈ nbrF es n, ∀ d : Int, d = 1 ∨ d = -1 → (slp f n o = d ↔ f o ≠ (f n - d) % 3) := fun o ho d hd => by
    obtain ⟨a, b, c⟩ := nbr o ho
    unfold slp
    rcases hd with rfl | rfl <;> split <;> omega
  unfold movesOf
  rw [List.filter_map, List.filter_filter]
  have dd : dirU (h n) = 1 ∨ dirU (h n) = -1 := by
    unfold dirU
    split <;> simp
  rw [three (v0 := (f n - dirU (h n)) % 3) (c := decide (h n ≠ 0 ∧ ∀ o ∈ nbS es n, slp f n o = dirU (h n))) (by omega) (by omega) ?_]
  · unfold pvF
    by_cases c : h n ≠ 0 ∧ ∀ o ∈ nbS es n, slp f n o = dirU (h n)
    · rw [decide_eq_true c, if_pos rfl, if_pos c]
      rfl
    · rw [decide_eq_false c, if_neg Bool.false_ne_true, if_neg c]
      rfl
  · intro v v0 v2
    rw [Bool.eq_iff_iff, Bool.and_eq_true, Bool.and_eq_true, decide_eq_true_iff, decide_eq_true_iff]
    show (goP f h (n, v) = true ∧ freeB es f n v = true) ↔ _
    have fr : freeB es f n v = true ↔ (∀ o ∈ nbrF es n, f o ≠ v) ∧ v ≠ f n := by
      unfold freeB
      rw [Bool.not_eq_true', decide_eq_false_iff_not, List.mem_append, List.mem_singleton, List.mem_map, not_or]
      constructor
      · rintro ⟨a, b⟩
        exact ⟨fun o ho z => a ⟨o, ho, z⟩, b⟩
      · rintro ⟨a, b⟩
        exact ⟨fun ⟨o, ho, z⟩ => a o ho z, b⟩
    have go : goP f h (n, v) = true ↔ (0 < h n ∧ (f n - v) % 3 = 1) ∨ (h n < 0 ∧ ¬ (f n - v) % 3 = 1) := by
      unfold goP
      simp only [Bool.or_eq_true, Bool.and_eq_true, decide_eq_true_iff, Bool.not_eq_true', decide_eq_false_iff_not]
    rw [fr, go]
    constructor
    · rintro ⟨a, b, c⟩
      have ev : v = (f n - dirU (h n)) % 3 := by
        unfold dirU
        rcases a with a | a
        · rw [if_pos a.1]
          omega
        · rw [if_neg (by omega)]
          omega
      refine ⟨ev, by omega, fun o ho => (slo o ((nbm o).mp ho) _ dd).mpr ?_⟩
      rw [← ev]
      exact b o ((nbm o).mp ho)
    · rintro ⟨ev, c, k⟩
      refine ⟨?_, fun o ho => ?_, ?_⟩
      · unfold dirU at ev
        by_cases p : 0 < h n
        · rw [if_pos p] at ev
          left
          omega
        · rw [if_neg p] at ev
          right
          omega
      · rw [ev]
        exact (slo o ho _ dd).mp (k o ((nbm o).mpr ho))
      · rcases dd with z | z <;> rw [z] at ev <;> omega
theorem prog_eq (ok : EsOk ns es f) : ∀ {xs : List Str}, (∀ x ∈ xs, x ∈ ns) → progF xs es f h pn = xs.flatMap (pmF es f h pn)
  | [], _ => rfl
  | x :: r, hx => by
    have ih := prog_eq ok (xs := r) fun y hy => hx y (List.mem_cons_of_mem _ hy)
    unfold progF movesF at ih ⊢
    rw [List.flatMap_cons, List.filter_append, List.flatMap_cons, ih]
    congr 1
    unfold pmF
    by_cases c : x ∈ pn
    · rw [if_pos c]
      cases pvF f (nbS es x) x (h x) with
      | none => rfl
      | some v =>
        show _ = if x ∈ pn then [] else [(x, v)]
        rw [if_pos c]
        rfl
    · rw [if_neg c, prog_at ok (hx x List.mem_cons_self)]
      cases pvF f (nbS es x) x (h x) with
      | none => rfl
      | some v =>
        show _ = if x ∈ pn then [] else [(x, v)]
        rw [if_neg c]
theorem sz_zero : ∀ {ns : List Str}, sz ns h = 0 ↔ ∀ n ∈ ns, h n = 0
  | [] => ⟨(fun _ _ m => nomatch m), fun _ => rfl⟩
  | n :: r => by
    have ih := sz_zero (ns := r)
    have e : sz (n :: r) h = ((h n).natAbs : Int) + sz r h := List.sum_cons
    have p : ∀ xs : List Str, 0 ≤ sz xs h := fun xs => by
      induction xs with
      | nil => exact Int.le_refl _
      | cons x t ih =>
        have e : sz (x :: t) h = ((h x).natAbs : Int) + sz t h := List.sum_cons
        omega
    have := p r
    rw [e]
    constructor
    · intro z x hx
      rcases List.mem_cons.mp hx with rfl | hx
      · omega
      · exact ih.mp (by omega) x hx
    · intro z
      have a := z n List.mem_cons_self
      have b := ih.mpr fun x hx => z x (List.mem_cons_of_mem _ hx)
      omega
theorem prog_some (ok : EsOk ns es f) (nd : ns.Nodup) (fe : Feas ns es f h pn) : progF ns es f h pn = [] ↔ sz ns h = 0 := by
  rw [sz_zero, prog_eq ok fun _ h => h, List.flatMap_eq_nil_iff]
  have key : ∀ n ∈ ns, h n ≠ 0 → (∀ o, Adj es n o → slp f n o = dirU (h n)) → pmF es f h pn n ≠ [] := fun n hn h0 k => by
    unfold pmF pvF
    rw [if_pos ⟨h0, fun o ho => k o (nbS_mem.mp ho)⟩]
    show (if n ∈ pn then [] else [_]) ≠ []
    rw [if_neg fun z => h0 (fe.pin n z)]
    exact List.cons_ne_nil _ _
  constructor
  · intro z x hx
    have c : h x = 0 ∨ 0 < h x ∨ h x < 0 := by omega
    rcases c with c | c | c
    · exact c
    · obtain ⟨n, hn, h1, h2⟩ := up_exists ok nd fe hx c
      exact (key n hn (by omega) (fun o ho => by unfold dirU; rw [if_pos h1]; exact h2 o ho) (z n hn)).elim
    · obtain ⟨n, hn, h1, h2⟩ := down_exists ok nd fe hx c
      exact (key n hn (by omega) (fun o ho => by unfold dirU; rw [if_neg (by omega)]; exact h2 o ho) (z n hn)).elim
  · intro z x hx
    unfold pmF pvF
    rw [if_neg fun c => c.1 (z x hx)]
theorem prog_legal {m : Str × Int} (hm : m ∈ progF ns es f h pn) : Legal ns es f pn m ∧ goP f h m = true := ⟨legal_of (List.mem_filter.mp hm).1, (List.mem_filter.mp hm).2⟩
/-- the number after a progress move -/
theorem prog_dlt (ok : EsOk ns es f) {m : Str × Int} (hm : m ∈ progF ns es f h pn) : h m.1 - dlt (f m.1 - m.2) = h m.1 + (if 0 < h m.1 then -1 else 1) := by
  obtain ⟨l, g⟩ := prog_legal hm
  have go : (0 < h m.1 ∧ (f m.1 - m.2) % 3 = 1) ∨ (h m.1 < 0 ∧ ¬ (f m.1 - m.2) % 3 = 1) := by
    unfold goP at g
    simpa only [Bool.or_eq_true, Bool.and_eq_true, decide_eq_true_iff, Bool.not_eq_true', decide_eq_false_iff_not] using g
  have v := l.val
  have t := ok.tri _ l.mem
  have ne := l.own
  unfold dlt
  rcases go with ⟨a, b⟩ | ⟨a, b⟩
  · rw [if_pos a, if_neg (by omega), if_pos b]
    omega
  · have c : ¬ 0 < h m.1 := by omega
    rw [if_neg c, if_neg (by omega), if_neg b]
    omega
end
end U

/-! feasible lifts: of moves, and shifted -/
namespace U
open PySem PySem.Spec PyProof.Rows L2
theorem cnt_not {x : Str} : ∀ {ms : List (Str × Int)} {f h : Str → Int}, x ∉ ms.map (·.1) → (countF f h ms).2 x = h x
  | [], _, _, _ => rfl
  | (n, v) :: r, f, h, nx => by
    have nx' : x ≠ n ∧ x ∉ r.map (·.1) := by
      rw [List.map_cons, List.mem_cons, not_or] at nx
      exact nx
    show (countF (updf f n v) (updf h n (h n + dlt (f n - v))) r).2 x = h x
    rw [cnt_not nx'.2]
    unfold updf
    rw [if_neg nx'.1]
section
variable {ns : List Str} {es : List (Str × Str)} {f h : Str → Int} {pn : List Str}
theorem plays_off (ok : EsOk ns es f) {ms : List (Str × Int)} {f' : Str → Int} (p : Plays ns es pn f ms f') : EsOk ns es f' ∧ (∀ x, Cyc es f' x ↔ Cyc es f x) ∧ ∀ x, (x ∈ pn ∨ Cyc es f x) → x ∉ ms.map (·.1) := by
  induction p with
  | nil => exact ⟨ok, fun _ => Iff.rfl, fun x _ z => nomatch z⟩
  | @snoc ms f' m p l ih =>
    obtain ⟨i1, i2, i3⟩ := ih
    refine ⟨(move_keeps (f0 := f') (h := fun _ => 0) i1 l fun e _ => by omega).1, fun x => (cyc_iff i1 l).trans (i2 x), fun x hx z => ?_⟩
    rw [List.map_append] at z
    rcases List.mem_append.mp z with z | z
    · exact i3 x hx z
    · have e : x = m.1 := List.mem_singleton.mp z
      rw [e] at hx
      rcases hx with hx | hx
      · exact l.pin hx
      · exact cyc_still i1 l ((i2 _).mpr hx)
theorem feas_count (ok : EsOk ns es f) {ms : List (Str × Int)} {f' : Str → Int} (p : Plays ns es pn f ms f') : Feas ns es f (countF f (fun _ => 0) ms).2 pn := by
  have o := (plays_off ok p).2.2
  exact ⟨fits_count ok p, fun x hx => cnt_not (o x (.inl hx)), fun x hx => cnt_not (o x (.inr hx))⟩
end
end U

/-! lifts performed, step by step -/
namespace U
open PySem PySem.Spec PyProof.Rows L2
/-- one less to go at n -/
def redU (h : Str → Int) (n : Str) : Str → Int := updf h n (h n + (if 0 < h n then -1 else 1))
section
variable {ns : List Str} {es : List (Str × Str)} {f h : Str → Int} {pn : List Str}
theorem sz_cons {n : Str} {r : List Str} : sz (n :: r) h = ((h n).natAbs : Int) + sz r h := List.sum_cons
theorem sz_nn : ∀ {xs : List Str}, 0 ≤ sz xs h
  | [] => Int.le_refl _
  | x :: t => by
    rw [sz_cons]
    have := sz_nn (xs := t)
    omega
theorem sz_off {n : Str} {v : Int} : ∀ {xs : List Str}, n ∉ xs → sz xs (updf h n v) = sz xs h
  | [], _ => rfl
  | x :: t, nm => by
    rw [sz_cons, sz_cons, sz_off fun z => nm (List.mem_cons_of_mem _ z)]
    have : x ≠ n := fun z => nm (z ▸ List.mem_cons_self)
    unfold updf
    rw [if_neg this]
theorem sz_upd {n : Str} {v : Int} : ∀ {xs : List Str}, xs.Nodup → n ∈ xs → sz xs (updf h n v) = sz xs h - ((h n).natAbs : Int) + (v.natAbs : Int)
  | x :: t, nd, hm => by
    rw [sz_cons, sz_cons]
    rw [List.nodup_cons] at nd
    by_cases e : x = n
    · subst e
      rw [sz_off nd.1]
      unfold updf
      rw [if_pos rfl]
      omega
    · rw [sz_upd nd.2 ((List.mem_cons.mp hm).resolve_left fun z => e z.symm)]
      have : updf h n v x = h x := by
        unfold updf
        rw [if_neg e]
      rw [this]
      omega
theorem sz_red {n : Str} (nd : ns.Nodup) (hn : n ∈ ns) (h0 : h n ≠ 0) : sz ns (redU h n) = sz ns h - 1 := by
  unfold redU
  rw [sz_upd nd hn]
  split <;> omega
theorem dlt_mod {d : Int} : (d - dlt d) % 3 = 0 ∧ -1 ≤ dlt d ∧ dlt d ≤ 1 := by
  unfold dlt
  split
  · omega
  · split <;> omega
/-- the moves of a lift, each the first progress move -/
inductive PerfR (ns : List Str) (es : List (Str × Str)) (pn : List Str) (f h : Str → Int) : List (Str × Int) → (Str → Int) → (Str → Int) → Prop
  | nil : PerfR ns es pn f h [] f h
  | snoc {ms : List (Str × Int)} {f' h' : Str → Int} {m : Str × Int} {r : List (Str × Int)} : PerfR ns es pn f h ms f' h' → progF ns es f' h' pn = m :: r → PerfR ns es pn f h (ms ++ [m]) (updf f' m.1 m.2) (redU h' m.1)
/-- .. or any progress move -/
inductive AnyR (ns : List Str) (es : List (Str × Str)) (pn : List Str) (f h : Str → Int) : List (Str × Int) → (Str → Int) → (Str → Int) → Prop
  | nil : AnyR ns es pn f h [] f h
  | snoc {ms : List (Str × Int)} {f' h' : Str → Int} {m : Str × Int} : AnyR ns es pn f h ms f' h' → m ∈ progF ns es f' h' pn → AnyR ns es pn f h (ms ++ [m]) (updf f' m.1 m.2) (redU h' m.1)
theorem PerfR.any {ms : List (Str × Int)} {f' h' : Str → Int} (r : PerfR ns es pn f h ms f' h') : AnyR ns es pn f h ms f' h' := by
  induction r with
  | nil => exact .nil
  | snoc _ e ih => exact .snoc ih (by rw [e]; exact List.mem_cons_self)
theorem prog_ne {m : Str × Int} (hm : m ∈ progF ns es f h pn) : h m.1 ≠ 0 := by
  have g := (prog_legal hm).2
  have go : (0 < h m.1 ∧ (f m.1 - m.2) % 3 = 1) ∨ (h m.1 < 0 ∧ ¬ (f m.1 - m.2) % 3 = 1) := by
    unfold goP at g
    simpa only [Bool.or_eq_true, Bool.and_eq_true, decide_eq_true_iff, Bool.not_eq_true', decide_eq_false_iff_not] using g
  omega
/-- a progress move: what it keeps -/
theorem prog_step (ok : EsOk ns es f) (nd : ns.Nodup) (fe : Feas ns es f h pn) {m : Str × Int} (hm : m ∈ progF ns es f h pn) :
    EsOk ns es (updf f m.1 m.2) ∧ Feas ns es (updf f m.1 m.2) (redU h m.1) pn ∧ sz ns (redU h m.1) = sz ns h - 1 ∧ ∀ n ∈ ns, (updf f m.1 m.2 n - redU h m.1 n) % 3 = (f n - h n) % 3 := by
  have lg := (prog_legal hm).1
  have e := prog_dlt ok hm
  have fe2 := feas_move ok fe lg
  rw [e] at fe2
  refine ⟨(move_keeps (f0 := f) (h := fun _ => 0) ok lg fun e _ => by omega).1, fe2, sz_red nd lg.mem (prog_ne hm), fun n hn => ?_⟩
  unfold redU
  rw [← e]
  unfold updf
  by_cases z : n = m.1
  · rw [if_pos z, if_pos z, z]
    have := dlt_mod (d := f m.1 - m.2)
    omega
  · rw [if_neg z, if_neg z]
theorem AnyR.keeps (ok : EsOk ns es f) (nd : ns.Nodup) (fe : Feas ns es f h pn) {ms : List (Str × Int)} {f' h' : Str → Int} (r : AnyR ns es pn f h ms f' h') :
    EsOk ns es f' ∧ Feas ns es f' h' pn ∧ sz ns h' + ms.length = sz ns h ∧ (∀ n ∈ ns, (f' n - h' n) % 3 = (f n - h n) % 3) ∧ Plays ns es pn f ms f' := by
  induction r with
  | nil => exact ⟨ok, fe, by simp, fun _ _ => rfl, .nil⟩
  | @snoc ms f' h' m r hm ih =>
    obtain ⟨i1, i2, i3, i4, i5⟩ := ih
    obtain ⟨s1, s2, s3, s4⟩ := prog_step i1 nd i2 hm
    refine ⟨s1, s2, ?_, fun n hn => (s4 n hn).trans (i4 n hn), .snoc i5 (prog_legal hm).1⟩
    rw [List.length_append, List.length_singleton]
    omega
/-- nothing is left: the state of the lift -/
theorem AnyR.done (ok : EsOk ns es f) (nd : ns.Nodup) (fe : Feas ns es f h pn) {ms : List (Str × Int)} {f' h' : Str → Int} (r : AnyR ns es pn f h ms f' h') (z : sz ns h' = 0) : ∀ n ∈ ns, f' n = (f n - h n) % 3 := fun n hn => by
  obtain ⟨a, _, _, b, _⟩ := r.keeps ok nd fe
  have t := a.tri n hn
  have := b n hn
  rw [sz_zero.mp z n hn] at this
  omega
/-- a lift of moves: no more than these, and the state it leads to -/
theorem plays_lift (ok : EsOk ns es f) (nd : ns.Nodup) {ms : List (Str × Int)} {f' : Str → Int} (p : Plays ns es pn f ms f') :
    EsOk ns es f' ∧ (countF f (fun _ => 0) ms).1 = f' ∧ sz ns (countF f (fun _ => 0) ms).2 ≤ ms.length ∧ ∀ n ∈ ns, f' n = (f n - (countF f (fun _ => 0) ms).2 n) % 3 := by
  induction p with
  | nil =>
    refine ⟨ok, rfl, ?_, fun n hn => ?_⟩
    · show sz ns (fun _ => 0) ≤ 0
      exact Int.le_of_eq (sz_zero.mpr fun _ _ => rfl)
    · show f n = (f n - 0) % 3
      have := ok.tri n hn
      omega
  | @snoc ms f' m p l ih =>
    obtain ⟨i1, i2, i3, i4⟩ := ih
    have ok2 := (move_keeps (f0 := f') (h := fun _ => 0) i1 l fun e _ => by omega).1
    obtain ⟨n, v⟩ := m
    rw [countF_snoc, i2]
    generalize (countF f (fun _ => 0) ms).2 = h0 at *
    have dm := dlt_mod (d := f' n - v)
    refine ⟨ok2, rfl, ?_, fun x hx => ?_⟩
    · rw [sz_upd nd l.mem, List.length_append, List.length_singleton]
      show sz ns h0 - ((h0 n).natAbs : Int) + ((h0 n + dlt (f' n - v)).natAbs : Int) ≤ _
      omega
    · have j := i4 x hx
      have t := ok2.tri x hx
      show updf f' n v x = (f x - updf h0 n (h0 n + dlt (f' n - v)) x) % 3
      have t : 0 ≤ updf f' n v x ∧ updf f' n v x < 3 := t
      unfold updf at t ⊢
      by_cases z : x = n
      · rw [if_pos z] at t ⊢
        rw [if_pos z]
        rw [z] at j ⊢
        omega
      · rw [if_neg z] at t ⊢
        rw [if_neg z]
        exact j
def plU (f : Str → Int) (ms : List (Str × Int)) : Str → Int := ms.foldl (fun f m => updf f m.1 m.2) f
def rdU (h : Str → Int) (ms : List (Str × Int)) : Str → Int := ms.foldl (fun h m => redU h m.1) h
theorem plU_snoc {ms : List (Str × Int)} {m : Str × Int} : plU f (ms ++ [m]) = updf (plU f ms) m.1 m.2 := by
  unfold plU
  rw [List.foldl_append]
  rfl
theorem rdU_snoc {ms : List (Str × Int)} {m : Str × Int} : rdU h (ms ++ [m]) = redU (rdU h ms) m.1 := by
  unfold rdU
  rw [List.foldl_append]
  rfl
theorem AnyR.ends {ms : List (Str × Int)} {f' h' : Str → Int} (r : AnyR ns es pn f h ms f' h') : f' = plU f ms ∧ h' = rdU h ms := by
  induction r with
  | nil => exact ⟨rfl, rfl⟩
  | snoc _ _ ih => exact ⟨by rw [plU_snoc, ih.1], by rw [rdU_snoc, ih.2]⟩
theorem AnyR.at {ms : List (Str × Int)} {f' h' : Str → Int} (r : AnyR ns es pn f h ms f' h') : ∀ i (hi : i < ms.length), AnyR ns es pn f h (ms.take i) (plU f (ms.take i)) (rdU h (ms.take i)) ∧ ms[i] ∈ progF ns es (plU f (ms.take i)) (rdU h (ms.take i)) pn := by
  induction r with
  | nil => exact fun i hi => absurd hi (Nat.not_lt_zero i)
  | @snoc ms f' h' m r hm ih =>
    intro i hi
    rw [List.length_append, List.length_singleton] at hi
    by_cases c : i < ms.length
    · rw [List.take_append_of_le_length (by omega), List.getElem_append_left c]
      exact ih i c
    · obtain rfl : i = ms.length := by omega
      obtain ⟨e1, e2⟩ := r.ends
      rw [List.take_append_of_le_length (Nat.le_refl _), List.take_length, List.getElem_append_right (Nat.le_refl _), ← e1, ← e2]
      simp only [Nat.sub_self, List.getElem_cons_zero]
      exact ⟨r, hm⟩
end
end U

/-! the smallest lift to a state that a feasible lift leads to: the plain law -/
namespace U
open PySem PySem.Spec PyProof.Rows L2
section
variable {ns : List Str} {es : List (Str × Str)} {f g h h0 : Str → Int} {pn : List Str}
theorem pm_mod {x y : Int} (hx : x = 1 ∨ x = -1) (hy : y = 1 ∨ y = -1) (e : x % 3 = y % 3) : x = y := by
  omega
/-- the slopes of the state that a feasible lift leads to -/
theorem feas_t (ok : EsOk ns es f) (okg : EsOk ns es g) (fe : Feas ns es f h pn) (hg : ∀ x ∈ ns, (f x - h x - g x) % 3 = 0) : ∀ e ∈ es, slp f e.1 e.2 - slp g e.1 e.2 = 2 * (h e.1 - h e.2) := fun e he => by
  have a := fit_pm.mp (fe.fit e he)
  have k : Adj es e.1 e.2 := .inl he
  obtain ⟨i1, i2, _⟩ := adj_in ok k
  have g1 := hg _ i1
  have g2 := hg _ i2
  have m1 := slp_mod ok k
  have m2 := slp_mod okg k
  have b := slp_pm g e.1 e.2
  have := pm_mod a b (by omega)
  omega
/-! ### shifts -/
def nS (h : Str → Int) (c : List Str) (k : Int) : Int := (c.map fun x => max (-(h x + 3 * k)) 0).sum
/-! ### the lift found -/
/-- the lift back -/
theorem feas_back (ok : EsOk ns es f) (okg : EsOk ns es g) (fe : Feas ns es f h pn) (t : ∀ e ∈ es, slp f e.1 e.2 - slp g e.1 e.2 = 2 * (h e.1 - h e.2)) (cy : ∀ x, Cyc es g x → Cyc es f x) : Feas ns es g (fun x => - h x) pn := by
  refine ⟨fun e he => ?_, fun x hx => ?_, fun x hx => ?_⟩
  · have a := t e he
    have b := slp_pm f e.1 e.2
    rw [fit_pm]
    omega
  · have := fe.pin x hx
    show - h x = 0
    omega
  · have := fe.cyc x (cy x hx)
    show - h x = 0
    omega
end
end U

/-! as many basis cycles as edges, nodes and components tell: the plain law -/
namespace U
open PySem PySem.Spec PyProof.Rows L2
section
variable {adj : Str → List Str} {ok : Str → Str → Bool} {root : Str}
end
section
variable {ns : List Str} {es : List (Str × Str)}
theorem eOf_mem (ok : GrOk ns es) {a b : Str} (h : Adj es a b) : eOf a b ∈ es := by
  rcases h with h | h
  · have lt := ok.lt _ h
    unfold eOf
    rw [if_pos lt]
    exact h
  · have lt := ok.lt _ h
    unfold eOf
    rw [if_neg (sLt_asymm lt)]
    exact h
end
end U

/-! paths of one slope; certificates -/
namespace U
open PySem PySem.Spec PyProof.Rows L2
def SlP (es : List (Str × Str)) (f : Str → Int) (dir : Int) : List Str → Prop
  | a :: b :: r => Adj es a b ∧ slp f a b = dir ∧ SlP es f dir (b :: r)
  | _ => True
section
variable {ns : List Str} {es : List (Str × Str)} {f : Str → Int} {dir : Int}
theorem SlP.join : ∀ {p r : List Str} {x : Str}, p.getLast? = some x → SlP es f dir p → SlP es f dir (x :: r) → SlP es f dir (p ++ r)
  | [], _, _, h, _, _ => nomatch h
  | [a], r, x, h, _, k => by
    have e : a = x := by simpa using h
    subst e
    exact k
  | a :: b :: q, r, x, h, w, k => by
    have h' : (b :: q).getLast? = some x := by rw [List.getLast?_cons_cons] at h; exact h
    exact ⟨w.1, w.2.1, SlP.join h' w.2.2 k⟩
theorem SlP.snoc {p : List Str} {x b : Str} (h : p.getLast? = some x) (w : SlP es f dir p) (a : Adj es x b) (e : slp f x b = dir) : SlP es f dir (p ++ [b]) := w.join h ⟨a, e, trivial⟩
theorem SlP.tail {a : Str} {p : List Str} (w : SlP es f dir (a :: p)) : SlP es f dir p := by
  cases p with
  | nil => trivial
  | cons b r => exact w.2.2
theorem SlP.left : ∀ {p r : List Str}, SlP es f dir (p ++ r) → SlP es f dir p
  | [], _, _ => trivial
  | [a], _, _ => trivial
  | a :: b :: q, r, w => ⟨w.1, w.2.1, SlP.left (p := b :: q) w.2.2⟩
theorem SlP.wk : ∀ {p : List Str}, SlP es f dir p → Wk es p
  | [], _ => trivial
  | [a], _ => trivial
  | a :: b :: q, w => ⟨w.1, SlP.wk w.2.2⟩
theorem SlP.at : ∀ {p : List Str}, SlP es f dir p → ∀ i (h : i + 1 < p.length), Adj es p[i] p[i + 1] ∧ slp f p[i] p[i + 1] = dir
  | a :: b :: q, w, 0, _ => ⟨w.1, w.2.1⟩
  | a :: b :: q, w, i + 1, h => SlP.at (p := b :: q) w.2.2 i (by simpa using h)
theorem SlP.of : ∀ {p : List Str}, (∀ i (h : i + 1 < p.length), Adj es p[i] p[i + 1] ∧ slp f p[i] p[i + 1] = dir) → SlP es f dir p
  | [], _ => trivial
  | [a], _ => trivial
  | a :: b :: q, h => ⟨(h 0 (by simp)).1, (h 0 (by simp)).2, SlP.of fun i hi => h (i + 1) (by simpa using hi)⟩
theorem SlP.rev (ok : EsOk ns es f) : ∀ {p : List Str}, SlP es f dir p → SlP es f (-dir) p.reverse
  | [], _ => trivial
  | [a], _ => trivial
  | a :: b :: q, w => by
    have i := SlP.rev ok w.2.2
    rw [List.reverse_cons]
    refine i.snoc (x := b) ?_ w.1.symm ?_
    · rw [List.reverse_cons]
      simp only [List.getLast?_append, List.getLast?_singleton, Option.some_or]
    · rw [slp_neg ok w.1, w.2.1]
theorem PathTo.slp {x y : Str} {p : List Str} (h : PathTo (nbS es) (slOk f dir) x y p) : SlP es f dir p ∧ p.head? = some x ∧ p.getLast? = some y := by
  induction h with
  | one => exact ⟨trivial, rfl, rfl⟩
  | @snoc a b p q m o ih =>
    obtain ⟨i1, i2, i3⟩ := ih
    refine ⟨i1.snoc i3 (nbS_mem.mp m) (of_decide_eq_true o), ?_, ?_⟩
    · cases p with
      | nil => cases i2
      | cons c r => exact i2
    · simp only [List.getLast?_append, List.getLast?_singleton, Option.some_or]
/-- a rising cycle from x -/
structure CycL (ns : List Str) (es : List (Str × Str)) (f : Str → Int) (x : Str) (c : List Str) : Prop where
  sl : SlP es f 1 c
  hd : c.head? = some x
  la : c.getLast? = some x
  l2 : 2 ≤ c.length
  ln : c.length ≤ ns.length + 2
  in_ : ∀ y ∈ c, y ∈ ns
/-- one path of a certificate -/
structure CerP (ns : List Str) (es : List (Str × Str)) (f : Str → Int) (pn : List Str) (dir : Int) (x : Str) (p : List Str) : Prop where
  hd : p.head? = some x
  sl : SlP es f dir p
  ln : p.length ≤ 2 * ns.length + 20
  in_ : ∀ y ∈ p, y ∈ ns
  en : ∃ y, p.getLast? = some y ∧ (y ∈ pn ∨ y ∈ p.dropLast)
theorem sl_paths (ok : GrOk ns es) (l : ns.length ≤ 1000) {x : Str} (hx : x ∈ ns) {c : Str × List Str} (h : c ∈ pathsF (nbS es) (slOk f dir) x) : PathTo (nbS es) (slOk f dir) x c.1 c.2 ∧ c.2.length ≤ ns.length + 1 ∧ ∀ y ∈ c.2, y ∈ ns := by
  have cl : ∀ a ∈ ns, ∀ b ∈ nbS es a, b ∈ ns := fun a _ b hb => nbS_in ok hb
  have e := stF_done (adj := nbS es) (ok := slOk f dir) (root := x) (i := ns.length) (stF_len cl hx ns.length) l
  rw [← e] at h
  have p := stF_path _ _ h
  refine ⟨p, stF_plen _ _ h, ?_⟩
  generalize c.2 = q at p
  generalize c.1 = z at p
  clear h e
  induction p with
  | one => intro y hy; rw [List.mem_singleton.mp hy]; exact hx
  | @snoc a b p q m o ih =>
    intro y hy
    rcases List.mem_append.mp hy with hy | hy
    · exact ih y hy
    · rw [List.mem_singleton.mp hy]
      exact nbS_in ok m
theorem drop_last {p : List Str} {y : Str} (h : p.getLast? = some y) : p = p.dropLast ++ [y] := by
  have hn : p ≠ [] := fun z => by rw [z] at h; cases h
  have := List.dropLast_concat_getLast hn
  rw [List.getLast?_eq_getLast hn] at h
  rw [Option.some.inj h] at this
  exact this.symm
/-- a path to a pinned node -/
theorem cer_pin {pn : List Str} {x y : Str} {p : List Str} (h : PathTo (nbS es) (slOk f dir) x y p) (l : p.length ≤ ns.length + 1) (i : ∀ z ∈ p, z ∈ ns) (hy : y ∈ pn) : CerP ns es f pn dir x p := by
  obtain ⟨a, b, c⟩ := h.slp
  exact ⟨b, a, by omega, i, y, c, .inl hy⟩
/-- a path to a cycle and around it -/
theorem cer_cyc (ok : EsOk ns es f) {pn : List Str} {x y : Str} {p c : List Str} (hd : dir = 1 ∨ dir = -1) (h : PathTo (nbS es) (slOk f dir) x y p) (l : p.length ≤ ns.length + 1) (i : ∀ z ∈ p, z ∈ ns) (k : CycL ns es f y c) : CerP ns es f pn dir x (p.dropLast ++ if dir = 1 then c else c.reverse) := by
  obtain ⟨a, b, e⟩ := h.slp
  have kd : SlP es f dir (if dir = 1 then c else c.reverse) ∧ (if dir = 1 then c else c.reverse).head? = some y ∧ (if dir = 1 then c else c.reverse).getLast? = some y ∧ (if dir = 1 then c else c.reverse).length = c.length ∧ ∀ z ∈ (if dir = 1 then c else c.reverse), z ∈ ns := by
    by_cases q : dir = 1
    · rw [if_pos q, q]
      exact ⟨k.sl, k.hd, k.la, rfl, k.in_⟩
    · obtain rfl : dir = -1 := hd.resolve_left q
      rw [if_neg q]
      refine ⟨k.sl.rev ok, ?_, ?_, List.length_reverse, fun z hz => k.in_ z (List.mem_reverse.mp hz)⟩
      · rw [List.head?_reverse]
        exact k.la
      · rw [List.getLast?_reverse]
        exact k.hd
  generalize (if dir = 1 then c else c.reverse) = d at kd
  obtain ⟨d1, d2, d3, d4, d5⟩ := kd
  have dl := drop_last e
  have l2 := k.l2
  have ln := k.ln
  obtain ⟨d0, dr, rfl⟩ : ∃ d0 dr, d = d0 :: dr := by
    cases d with
    | nil => cases d2
    | cons a b => exact ⟨a, b, rfl⟩
  obtain rfl : d0 = y := by simpa using d2
  refine ⟨?_, ?_, ?_, ?_, d0, ?_, .inr ?_⟩
  · rw [dl] at b
    cases hq : p.dropLast with
    | nil => rw [hq] at b; exact b
    | cons z r => rw [hq] at b; exact b
  · have := a.join e d1
    rw [dl] at this
    rw [List.append_assoc] at this
    exact this
  · have : p.dropLast.length + 1 = p.length := by
      have := congrArg List.length dl
      rw [List.length_append, List.length_singleton] at this
      omega
    rw [List.length_append]
    omega
  · intro z hz
    rcases List.mem_append.mp hz with hz | hz
    · exact i z ((List.dropLast_sublist p).subset hz)
    · exact d5 z hz
  · rw [List.getLast?_append, d3]
    rfl
  · rw [List.dropLast_append_of_ne_nil (by simp)]
    refine List.mem_append_right _ ?_
    cases dr with
    | nil =>
      rw [d4.symm] at l2
      exact absurd l2 (by simp)
    | cons z r => exact List.mem_cons_self
end
end U

/-! the numbers along the root paths; when there is no lift: the plain law -/
namespace U
open PySem PySem.Spec PyProof.Rows L2
section
variable {ns : List Str} {es : List (Str × Str)} {f g h0 : Str → Int} {pn : List Str}
end
end U

/-! lifts back, lifts joined, the size of the smallest lift: the plain law -/
namespace U
open PySem PySem.Spec PyProof.Rows L2
section
variable {ns : List Str} {es : List (Str × Str)} {f g h : Str → Int} {pn : List Str} {dir : Int}
theorem psum_top {f : Str → Int} : ∀ {p : List Str}, Wk es p → psum f p + 1 ≤ (p.length : Int) ∨ p = [] := fun {p} => by
  induction p with
  | nil => intro _; exact .inr rfl
  | cons a r ih =>
    intro w
    cases r with
    | nil => left; rw [psum_one]; simp
    | cons b q =>
      left
      rcases ih w.2 with i | i
      · have s := slp_pm f a b
        rw [psum_cons]
        simp only [List.length_cons] at i ⊢
        omega
      · cases i
/-- all slopes are 1 where the sum is greatest -/
theorem slp_full {f : Str → Int} : ∀ {p : List Str}, Wk es p → psum f p + 1 = (p.length : Int) → SlP es f 1 p := fun {p} => by
  induction p with
  | nil => intro _ _; trivial
  | cons a r ih =>
    intro w e
    cases r with
    | nil => trivial
    | cons b q =>
      have s := slp_pm f a b
      rw [psum_cons] at e
      simp only [List.length_cons] at e
      rcases psum_top (f := f) w.2 with i | i
      · simp only [List.length_cons] at i
        have e1 : slp f a b = 1 := by omega
        exact ⟨w.1, e1, ih w.2 (by simp only [List.length_cons]; omega)⟩
      · cases i
theorem slp_sum {f : Str → Int} : ∀ {p : List Str}, SlP es f 1 p → p ≠ [] → psum f p + 1 = (p.length : Int) := fun {p} => by
  induction p with
  | nil => intro _ n; exact absurd rfl n
  | cons a r ih =>
    intro w _
    cases r with
    | nil => rw [psum_one]; rfl
    | cons b q =>
      have i := ih w.2.2 (by simp)
      rw [psum_cons, w.2.1]
      simp only [List.length_cons] at i ⊢
      omega
theorem rr_path {x y : Str} (r : Rr es f dir x y) : ∃ p, SlP es f dir p ∧ p.head? = some x ∧ p.getLast? = some y := by
  induction r with
  | refl => exact ⟨[x], trivial, rfl, rfl⟩
  | @step a b _ m o ih =>
    obtain ⟨p, i1, i2, i3⟩ := ih
    refine ⟨p ++ [b], i1.snoc i3 (nbS_mem.mp m) (of_decide_eq_true o), ?_, ?_⟩
    · cases p with
      | nil => cases i2
      | cons c r => exact i2
    · simp only [List.getLast?_append, List.getLast?_singleton, Option.some_or]
theorem path_rr : ∀ {p : List Str} {x y : Str}, SlP es f dir p → p.head? = some x → p.getLast? = some y → Rr es f dir x y := fun {p} => by
  induction p with
  | nil => intro x y _ h; cases h
  | cons a r ih =>
    intro x y w h l
    obtain rfl : a = x := by simpa using h
    cases r with
    | nil =>
      obtain rfl : a = y := by simpa using l
      exact .refl
    | cons b q =>
      have l' : (b :: q).getLast? = some y := by rw [List.getLast?_cons_cons] at l; exact l
      exact (rr_step w.1 w.2.1).trans (ih w.2.2 rfl l')
/-- cycles stay on the way of a lift -/
theorem cyc_t (okf : EsOk ns es f) (okg : EsOk ns es g) (t : ∀ e ∈ es, slp f e.1 e.2 - slp g e.1 e.2 = 2 * (h e.1 - h e.2)) {x : Str} (c : Cyc es g x) : Cyc es f x := by
  obtain ⟨y, k, e, r⟩ := c
  obtain ⟨p, p1, p2, p3⟩ := rr_path r
  have q1 := p1.snoc p3 k e
  have la : (p ++ [x]).getLast? = some x := by simp only [List.getLast?_append, List.getLast?_singleton, Option.some_or]
  have hd : (p ++ [x]).head? = some x := by
    cases p with
    | nil => cases p2
    | cons c r => exact p2
  have e1 := psum_lift okf okg t q1.wk hd la
  have e2 := slp_sum q1 (by simp)
  have q2 := slp_full (f := f) q1.wk (by omega)
  refine ⟨y, k, ?_, path_rr q2.left p2 p3⟩
  have pl : 0 < p.length := by
    cases p with
    | nil => cases p2
    | cons c r => simp
  have := (q2.at (p.length - 1) (by rw [List.length_append, List.length_singleton]; omega)).2
  have a1 : (p ++ [x])[p.length - 1]'(by rw [List.length_append]; omega) = y := by
    rw [List.getElem_append_left (by omega)]
    have := p3
    rw [List.getLast?_eq_getElem?, List.getElem?_eq_getElem (by omega)] at this
    exact Option.some.inj this
  have a2 : (p ++ [x])[p.length - 1 + 1]'(by rw [List.length_append, List.length_singleton]; omega) = x := by
    rw [List.getElem_append_right (by omega)]
    simp
  rw [a1, a2] at this
  exact this
/-- a feasible lift leads from f to g -/
def Lft (ns : List Str) (es : List (Str × Str)) (f g : Str → Int) (pn : List Str) (h : Str → Int) : Prop := Feas ns es f h pn ∧ ∀ x ∈ ns, (f x - h x - g x) % 3 = 0
theorem Lft.back (okf : EsOk ns es f) (okg : EsOk ns es g) (l : Lft ns es f g pn h) : Lft ns es g f pn fun x => - h x := by
  have t := feas_t okf okg l.1 l.2
  refine ⟨feas_back okf okg l.1 t fun x c => cyc_t okf okg t c, fun x hx => ?_⟩
  have := l.2 x hx
  show (g x - - h x - f x) % 3 = 0
  omega
theorem Lft.join {k h2 : Str → Int} (okf : EsOk ns es f) (okg : EsOk ns es g) (okk : EsOk ns es k) (l : Lft ns es f g pn h) (m : Lft ns es g k pn h2) : Lft ns es f k pn fun x => h x + h2 x := by
  have t := feas_t okf okg l.1 l.2
  have tb := feas_t okg okf (l.back okf okg).1 (l.back okf okg).2
  refine ⟨⟨fun e he => ?_, fun x hx => ?_, fun x hx => ?_⟩, fun x hx => ?_⟩
  · have a := t e he
    have b := fit_pm.mp (m.1.fit e he)
    rw [fit_pm]
    omega
  · have := l.1.pin x hx
    have := m.1.pin x hx
    omega
  · have := l.1.cyc x hx
    have := m.1.cyc x (cyc_t (h := fun x => - h x) okg okf tb hx)
    omega
  · have := l.2 x hx
    have := m.2 x hx
    show (f x - (h x + h2 x) - k x) % 3 = 0
    omega
end
end U

/-! all that one direction reaches is moved, in an order in which each node comes behind its neighbours in the direction -/
namespace U
open PySem PySem.Spec PyProof.Rows L2
/-- an order in which each node comes behind its neighbours in the direction -/
structure DepO (es : List (Str × Str)) (f : Str → Int) (dir : Int) (mem o : List Str) : Prop where
  nd : o.Nodup
  in_ : ∀ x ∈ o, x ∈ mem
  dep : ∀ i (hi : i < o.length), ∀ y, Adj es o[i] y → slp f o[i] y = dir → y ∈ o.take i
section
variable {ns : List Str} {es : List (Str × Str)} {f : Str → Int} {pn : List Str} {dir : Int} {mem o : List Str}
theorem DepO.nil : DepO es f dir mem [] := ⟨List.nodup_nil, (fun x h => nomatch h), fun i hi => absurd hi (Nat.not_lt_zero _)⟩
theorem DepO.snoc {x : Str} (d : DepO es f dir mem o) (hx : x ∈ mem) (nx : x ∉ o) (k : ∀ y, Adj es x y → slp f x y = dir → y ∈ o) : DepO es f dir mem (o ++ [x]) := by
  refine ⟨?_, fun y hy => ?_, fun i hi y a e => ?_⟩
  · rw [List.nodup_append]
    refine ⟨d.nd, by simp, fun a ha b hb e => ?_⟩
    rw [List.mem_singleton] at hb
    rw [e, hb] at ha
    exact nx ha
  · rcases List.mem_append.mp hy with hy | hy
    · exact d.in_ y hy
    · rw [List.mem_singleton.mp hy]
      exact hx
  · rw [List.length_append, List.length_singleton] at hi
    by_cases q : i < o.length
    · rw [List.getElem_append_left q] at a e
      rw [List.take_append_of_le_length (by omega)]
      exact d.dep i q y a e
    · obtain rfl : i = o.length := by omega
      rw [List.getElem_append_right (Nat.le_refl _)] at a e
      simp only [Nat.sub_self, List.getElem_cons_zero] at a e
      rw [List.take_left]
      exact k y a e
theorem DepO.len (d : DepO es f dir mem o) : o.length ≤ mem.length := nodup_len d.nd d.in_
end
end U

/-! frozen nodes: the plain law -/
namespace U
open PySem PySem.Spec PyProof.Rows L2
section
variable {ns : List Str} {es : List (Str × Str)} {f : Str → Int} {pn : List Str} {m : Str × Int}
end
end U

/-! rounds of progress moves: the plain law -/
namespace U
open PySem PySem.Spec PyProof.Rows L2
section
variable {ns : List Str} {es : List (Str × Str)} {f h : Str → Int} {pn : List Str}
theorem prog_iff (ok : EsOk ns es f) {m : Str × Int} : m ∈ progF ns es f h pn ↔ m.1 ∈ ns ∧ m.1 ∉ pn ∧ h m.1 ≠ 0 ∧ (∀ o, Adj es m.1 o → slp f m.1 o = dirU (h m.1)) ∧ m.2 = (f m.1 - dirU (h m.1)) % 3 := by
  rw [prog_eq ok fun _ h => h, List.mem_flatMap]
  constructor
  · rintro ⟨x, hx, hm⟩
    unfold pmF pvF at hm
    by_cases c : h x ≠ 0 ∧ ∀ o ∈ nbS es x, slp f x o = dirU (h x)
    · rw [if_pos c] at hm
      have hm : m ∈ (if x ∈ pn then [] else [(x, (f x - dirU (h x)) % 3)]) := hm
      split at hm
      · cases hm
      · rename_i np
        obtain rfl := List.mem_singleton.mp hm
        exact ⟨hx, np, c.1, fun o ho => c.2 o (nbS_mem.mpr ho), rfl⟩
    · rw [if_neg c] at hm
      cases hm
  · rintro ⟨a, b, c, d, e⟩
    refine ⟨m.1, a, ?_⟩
    unfold pmF pvF
    rw [if_pos ⟨c, fun o ho => d o (nbS_mem.mp ho)⟩]
    show m ∈ (if m.1 ∈ pn then [] else [(m.1, (f m.1 - dirU (h m.1)) % 3)])
    rw [if_neg b, ← e]
    exact List.mem_singleton.mpr rfl
theorem pm_shape {x : Str} : pmF es f h pn x = [] ∨ pmF es f h pn x = [(x, (f x - dirU (h x)) % 3)] := by
  unfold pmF pvF
  by_cases c : h x ≠ 0 ∧ ∀ o ∈ nbS es x, slp f x o = dirU (h x)
  · rw [if_pos c]
    show (if x ∈ pn then [] else [(x, (f x - dirU (h x)) % 3)]) = [] ∨ (if x ∈ pn then [] else [(x, (f x - dirU (h x)) % 3)]) = _
    split
    · exact .inl rfl
    · exact .inr rfl
  · rw [if_neg c]
    exact .inl rfl
theorem pm_nodup : ∀ {xs : List Str}, xs.Nodup → ((xs.flatMap (pmF es f h pn)).map (·.1)).Nodup ∧ ∀ y ∈ (xs.flatMap (pmF es f h pn)).map (·.1), y ∈ xs
  | [], _ => ⟨List.nodup_nil, fun y h => nomatch h⟩
  | x :: r, nd => by
    have nd' := List.nodup_cons.mp nd
    obtain ⟨i1, i2⟩ := pm_nodup nd'.2
    rw [List.flatMap_cons, List.map_append]
    rcases pm_shape (es := es) (f := f) (h := h) (pn := pn) (x := x) with e | e
    · rw [e]
      exact ⟨i1, fun y hy => List.mem_cons_of_mem _ (i2 y hy)⟩
    · rw [e]
      refine ⟨List.nodup_cons.mpr ⟨fun z => nd'.1 (i2 x z), i1⟩, fun y hy => ?_⟩
      rcases List.mem_cons.mp hy with z | z
      · rw [z]
        exact List.mem_cons_self
      · exact List.mem_cons_of_mem _ (i2 y z)
theorem prog_nodup (ok : EsOk ns es f) (nd : ns.Nodup) : ((progF ns es f h pn).map (·.1)).Nodup := by
  rw [prog_eq ok fun _ h => h]
  exact (pm_nodup nd).1
/-- numbers of neighbors differ by one at most -/
theorem fe_near (ok : EsOk ns es f) (fe : Feas ns es f h pn) {a b : Str} (k : Adj es a b) : slp f a b - 2 * (h a - h b) = 1 ∨ slp f a b - 2 * (h a - h b) = -1 := by
  rcases k with k | k
  · exact fit_pm.mp (fe.fit _ k)
  · have e := fit_pm.mp (fe.fit _ k)
    have s := slp_neg ok (show Adj es b a from .inl k)
    have e : slp f b a - 2 * (h b - h a) = 1 ∨ slp f b a - 2 * (h b - h a) = -1 := e
    omega
theorem prog_apart (ok : EsOk ns es f) (fe : Feas ns es f h pn) {a b : Str × Int} (ha : a ∈ progF ns es f h pn) (hb : b ∈ progF ns es f h pn) : ¬ Adj es a.1 b.1 := fun k => by
  obtain ⟨_, _, a3, a4, _⟩ := (prog_iff ok).mp ha
  obtain ⟨_, _, b3, b4, _⟩ := (prog_iff ok).mp hb
  have e1 := a4 _ k
  have e2 := b4 _ k.symm
  have e3 := slp_neg ok k
  have e4 := fe_near ok fe k
  unfold dirU at e1 e2
  split at e1 <;> split at e2 <;> omega
theorem prog_after (ok : EsOk ns es f) (nd : ns.Nodup) (fe : Feas ns es f h pn) {a b : Str × Int} (ha : a ∈ progF ns es f h pn) (hb : b ∈ progF ns es f h pn) (ne : b.1 ≠ a.1) : b ∈ progF ns es (updf f a.1 a.2) (redU h a.1) pn := by
  obtain ⟨ok', _⟩ := prog_step ok nd fe ha
  obtain ⟨b1, b2, b3, b4, b5⟩ := (prog_iff ok).mp hb
  have u1 : updf f a.1 a.2 b.1 = f b.1 := if_neg ne
  have u2 : redU h a.1 b.1 = h b.1 := if_neg ne
  refine (prog_iff ok').mpr ⟨b1, b2, by rw [u2]; exact b3, fun o ho => ?_, by rw [u1, u2]; exact b5⟩
  have no : o ≠ a.1 := fun z => prog_apart ok fe hb ha (by rw [← z]; exact ho)
  rw [slp_off ne no, u2]
  exact b4 o ho
theorem AnyR.trans {ms ms2 : List (Str × Int)} {f' h' f2 h2 : Str → Int} (a : AnyR ns es pn f h ms f' h') (b : AnyR ns es pn f' h' ms2 f2 h2) : AnyR ns es pn f h (ms ++ ms2) f2 h2 := by
  induction b with
  | nil => rw [List.append_nil]; exact a
  | snoc _ hm ih => rw [← List.append_assoc]; exact .snoc ih hm
/-- progress moves of one point, one after another -/
theorem round_any (ok : EsOk ns es f) (nd : ns.Nodup) (fe : Feas ns es f h pn) {ms : List (Str × Int)} (all : ∀ m ∈ ms, m ∈ progF ns es f h pn) (ndm : (ms.map (·.1)).Nodup) : ∀ i, i ≤ ms.length →
    AnyR ns es pn f h (ms.take i) (plU f (ms.take i)) (rdU h (ms.take i)) ∧ ∀ b ∈ progF ns es f h pn, b.1 ∉ (ms.take i).map (·.1) → b ∈ progF ns es (plU f (ms.take i)) (rdU h (ms.take i)) pn := by
  intro i
  induction i with
  | zero => exact fun _ => ⟨.nil, fun b hb _ => hb⟩
  | succ i ih =>
    intro hi
    obtain ⟨r, k⟩ := ih (by omega)
    have tk : ms.take (i + 1) = ms.take i ++ [ms[i]] := by
      rw [List.take_succ, List.getElem?_eq_getElem (by omega)]
      rfl
    have hm := all _ (List.getElem_mem (by omega : i < ms.length))
    have nin : ms[i].1 ∉ (ms.take i).map (·.1) := fun z => by
      rw [List.nodup_iff_pairwise_ne, List.pairwise_iff_getElem] at ndm
      obtain ⟨j, hj, e⟩ := List.mem_iff_getElem.mp z
      rw [List.getElem_map, List.getElem_take] at e
      rw [List.length_map, List.length_take] at hj
      have := ndm j i (by rw [List.length_map]; omega) (by rw [List.length_map]; omega) (by omega)
      rw [List.getElem_map, List.getElem_map] at this
      exact this e
    have hm' := k _ hm nin
    obtain ⟨ok', fe', _⟩ := r.keeps ok nd fe
    rw [tk, plU_snoc, rdU_snoc]
    refine ⟨.snoc r hm', fun b hb nb => ?_⟩
    rw [List.map_append, List.mem_append, not_or] at nb
    exact prog_after ok' nd fe' hm' (k b hb nb.1) fun z => nb.2 (by rw [z]; exact List.mem_singleton.mpr rfl)
theorem round_all (ok : EsOk ns es f) (nd : ns.Nodup) (fe : Feas ns es f h pn) : AnyR ns es pn f h (progF ns es f h pn) (plU f (progF ns es f h pn)) (rdU h (progF ns es f h pn)) := by
  have := (round_any ok nd fe (ms := progF ns es f h pn) (fun _ h => h) (prog_nodup ok nd) _ (Nat.le_refl _)).1
  rw [List.take_length] at this
  exact this
/-- rounds that are each all progress moves -/
inductive RoundR (ns : List Str) (es : List (Str × Str)) (pn : List Str) (f h : Str → Int) : List (List (Str × Int)) → (Str → Int) → (Str → Int) → Prop
  | nil : RoundR ns es pn f h [] f h
  | snoc {rs : List (List (Str × Int))} {f' h' : Str → Int} : RoundR ns es pn f h rs f' h' → progF ns es f' h' pn ≠ [] → RoundR ns es pn f h (rs ++ [progF ns es f' h' pn]) (plU f' (progF ns es f' h' pn)) (rdU h' (progF ns es f' h' pn))
theorem RoundR.any (ok : EsOk ns es f) (nd : ns.Nodup) (fe : Feas ns es f h pn) {rs : List (List (Str × Int))} {f' h' : Str → Int} (r : RoundR ns es pn f h rs f' h') : AnyR ns es pn f h rs.flatten f' h' := by
  induction r with
  | nil => exact .nil
  | @snoc rs f' h' r ne ih =>
    obtain ⟨ok', fe', _⟩ := ih.keeps ok nd fe
    rw [List.flatten_append]
    have := ih.trans (round_all ok' nd fe')
    simpa using this
theorem RoundR.len (ok : EsOk ns es f) (nd : ns.Nodup) (fe : Feas ns es f h pn) {rs : List (List (Str × Int))} {f' h' : Str → Int} (r : RoundR ns es pn f h rs f' h') : (rs.length : Int) + sz ns h' ≤ sz ns h := by
  induction r with
  | nil => simp
  | @snoc rs f' h' r ne ih =>
    obtain ⟨ok', fe', _⟩ := (r.any ok nd fe).keeps ok nd fe
    obtain ⟨_, _, s, _⟩ := (round_all ok' nd fe').keeps ok' nd fe'
    have : 0 < (progF ns es f' h' pn).length := List.length_pos_iff.mpr ne
    rw [List.length_append, List.length_singleton]
    omega
theorem RoundR.at {rs : List (List (Str × Int))} {f' h' : Str → Int} (r : RoundR ns es pn f h rs f' h') : ∀ i (hi : i < rs.length), ∃ f1 h1, RoundR ns es pn f h (rs.take i) f1 h1 ∧ rs[i] = progF ns es f1 h1 pn ∧ progF ns es f1 h1 pn ≠ [] ∧ RoundR ns es pn f h (rs.take (i + 1)) (plU f1 rs[i]) (rdU h1 rs[i]) := by
  induction r with
  | nil => exact fun i hi => absurd hi (Nat.not_lt_zero i)
  | @snoc rs f' h' r ne ih =>
    intro i hi
    rw [List.length_append, List.length_singleton] at hi
    by_cases c : i < rs.length
    · obtain ⟨f1, h1, a, b, d, e⟩ := ih i c
      refine ⟨f1, h1, ?_⟩
      rw [List.take_append_of_le_length (by omega), List.getElem_append_left c, List.take_append_of_le_length (by omega)]
      exact ⟨a, b, d, e⟩
    · obtain rfl : i = rs.length := by omega
      refine ⟨f', h', ?_⟩
      rw [List.take_append_of_le_length (Nat.le_refl _), List.take_length, List.getElem_append_right (Nat.le_refl _), List.take_of_length_le (by rw [List.length_append]; exact Nat.le_refl _)]
      simp only [Nat.sub_self, List.getElem_cons_zero]
      exact ⟨r, trivial, ne, .snoc r ne⟩
theorem RoundR.ends {rs : List (List (Str × Int))} {f' h' : Str → Int} (r : RoundR ns es pn f h rs f' h') : f' = plU f rs.flatten ∧ h' = rdU h rs.flatten := by
  induction r with
  | nil => exact ⟨rfl, rfl⟩
  | @snoc rs f' h' r ne ih =>
    obtain ⟨e1, e2⟩ := ih
    constructor
    · conv => lhs; rw [show plU f' = plU (plU f rs.flatten) from by rw [← e1]]
      unfold plU
      simp [List.foldl_append]
    · conv => lhs; rw [show rdU h' = rdU (rdU h rs.flatten) from by rw [← e2]]
      unfold rdU
      simp [List.foldl_append]
end
end U

/-! chains of events bound the rounds of any sequence: the plain law -/
namespace U
open PySem PySem.Spec PyProof.Rows L2
section
variable {ns : List Str} {es : List (Str × Str)} {f h : Str → Int} {pn : List Str}
/-- moves that are possible together -/
structure RoundOk (ns : List Str) (es : List (Str × Str)) (pn : List Str) (f : Str → Int) (r : List (Str × Int)) : Prop where
  leg : ∀ m ∈ r, Legal ns es f pn m
  nd : (r.map (·.1)).Nodup
  ap : ∀ a ∈ r, ∀ b ∈ r, ¬ Adj es a.1 b.1
theorem RoundOk.nil : RoundOk ns es pn f [] := ⟨(fun m h => nomatch h), List.nodup_nil, fun a h => nomatch h⟩
theorem RoundOk.snoc {r : List (Str × Int)} {m : Str × Int} (a : RoundOk ns es pn f r) (l : Legal ns es f pn m) (n : m.1 ∉ r.map (·.1)) (k : ∀ b ∈ r, ¬ Adj es b.1 m.1) (ok : EsOk ns es f) : RoundOk ns es pn f (r ++ [m]) := by
  refine ⟨fun x hx => ?_, ?_, fun x hx y hy z => ?_⟩
  · rcases List.mem_append.mp hx with hx | hx
    · exact a.leg x hx
    · rw [List.mem_singleton.mp hx]
      exact l
  · rw [List.map_append, List.nodup_append]
    refine ⟨a.nd, by simp, fun x hx y hy e => ?_⟩
    have hy : y = m.1 := List.mem_singleton.mp hy
    rw [e, hy] at hx
    exact n hx
  · rcases List.mem_append.mp hx with hx | hx <;> rcases List.mem_append.mp hy with hy | hy
    · exact a.ap x hx y hy z
    · rw [List.mem_singleton.mp hy] at z
      exact k x hx z
    · rw [List.mem_singleton.mp hx] at z
      exact k y hy z.symm
    · rw [List.mem_singleton.mp hx, List.mem_singleton.mp hy] at z
      exact (adj_in ok z).2.2.2 rfl
/-- the events for which an event waits -/
def depF (es : List (Str × Str)) (f h : Str → Int) (n : Str) (k : Int) : List (Str × Int) :=
  ((n, k - 1) :: (nbS es n).map fun m => (m, if (decide (slp f n m = -1) == decide (0 < h n)) = true then k else k - 1)).filter fun e => decide (0 < e.2)
def evOk (ns : List Str) (h : Str → Int) (e : Str × Int) : Prop := e.1 ∈ ns ∧ 1 ≤ e.2 ∧ e.2 ≤ ((h e.1).natAbs : Int)
def ChainP (ns : List Str) (es : List (Str × Str)) (f h : Str → Int) (evs : List (Str × Int)) : Prop := ∀ j (hj : j < evs.length), evOk ns h evs[j] ∧ ∀ i (hi : i + 1 = j), evs[i] ∈ depF es f h evs[j].1 evs[j].2
end
end U

/-! accepted certificates stay; the last of the order: the plain law -/
namespace U
open PySem PySem.Spec PyProof.Rows L2
section
variable {ns : List Str} {es : List (Str × Str)} {f g h : Str → Int} {pn : List Str} {dir : Int}
theorem SlP.right : ∀ {p r : List Str}, SlP es f dir (p ++ r) → SlP es f dir r
  | [], _, w => w
  | a :: p, r, w => SlP.right (p := p) (SlP.tail w)
theorem split_at {p : List Str} {y : Str} (h : y ∈ p) : ∃ a b, p = a ++ y :: b := List.append_of_mem h
theorem last_app {a : List Str} {y : Str} {b : List Str} : (a ++ y :: b).getLast? = (y :: b).getLast? := by
  rw [List.getLast?_append]
  cases hq : (y :: b).getLast? with
  | none => exact absurd hq (by simp)
  | some z => rfl
/-- the anchor to which a certificate's path leads -/
theorem cer_anc (ok : EsOk ns es f) (hd : dir = 1 ∨ dir = -1) {x : Str} {p : List Str} (c : CerP ns es f pn dir x p) : ∃ z ∈ ns, (z ∈ pn ∨ Cyc es f z) ∧ ∀ y ∈ p, Rr es f dir y z := by
  obtain ⟨z, la, alt⟩ := c.en
  refine ⟨z, c.in_ z (List.mem_of_getLast? la), ?_, fun y hy => ?_⟩
  · rcases alt with a | a
    · exact .inl a
    · right
      obtain ⟨u, v, e⟩ := split_at a
      have dl := drop_last la
      rw [e, List.append_assoc] at dl
      have w := c.sl
      rw [dl] at w
      have w2 : SlP es f dir (z :: (v ++ [z])) := w.right
      have cy : CycD es f dir z := by
        have e1 : z :: (v ++ [z]) = (z :: v) ++ [z] := rfl
        rw [e1] at w2
        have l0 : (z :: v) ≠ [] := by simp
        have la2 : ∃ y, (z :: v).getLast? = some y := ⟨_, List.getLast?_eq_getLast l0⟩
        obtain ⟨y, hy⟩ := la2
        refine ⟨y, ?_, ?_, path_rr w2.left rfl hy⟩
        · have := w2.at ((z :: v).length - 1) (by simp only [List.length_append, List.length_cons, List.length_nil]; omega)
          have a1 : ((z :: v) ++ [z])[(z :: v).length - 1]'(by simp only [List.length_append, List.length_cons, List.length_nil]; omega) = y := by
            rw [List.getElem_append_left (by simp)]
            rw [List.getLast?_eq_getElem?, List.getElem?_eq_getElem (by simp)] at hy
            exact Option.some.inj hy
          have a2 : ((z :: v) ++ [z])[(z :: v).length - 1 + 1]'(by simp only [List.length_append, List.length_cons, List.length_nil]; omega) = z := by
            rw [List.getElem_append_right (by simp)]
            simp
          rw [a1, a2] at this
          exact this.1
        · have := w2.at ((z :: v).length - 1) (by simp only [List.length_append, List.length_cons, List.length_nil]; omega)
          have a1 : ((z :: v) ++ [z])[(z :: v).length - 1]'(by simp only [List.length_append, List.length_cons, List.length_nil]; omega) = y := by
            rw [List.getElem_append_left (by simp)]
            rw [List.getLast?_eq_getElem?, List.getElem?_eq_getElem (by simp)] at hy
            exact Option.some.inj hy
          have a2 : ((z :: v) ++ [z])[(z :: v).length - 1 + 1]'(by simp only [List.length_append, List.length_cons, List.length_nil]; omega) = z := by
            rw [List.getElem_append_right (by simp)]
            simp
          rw [a1, a2] at this
          exact this.2
      rcases hd with rfl | rfl
      · exact cy
      · exact cyc_rev ok cy
  · obtain ⟨u, v, rfl⟩ := split_at hy
    rw [last_app] at la
    exact path_rr c.sl.right rfl la
theorem SlP.congr : ∀ {p : List Str}, (∀ y ∈ p, g y = f y) → SlP es f dir p → SlP es g dir p
  | [], _, _ => trivial
  | [a], _, _ => trivial
  | a :: b :: r, e, w => by
    refine ⟨w.1, ?_, SlP.congr (p := b :: r) (fun y hy => e y (List.mem_cons_of_mem _ hy)) w.2.2⟩
    have e1 := e a (by simp)
    have e2 := e b (by simp)
    have := w.2.1
    unfold slp at this ⊢
    rw [e1, e2]
    exact this
end
end U

/-! cheapest paths: the plain law -/
namespace U
open PySem PySem.Spec PyProof.Rows L2 PySem.W
/-- what the steps of a path cost together -/
def ctF (w : Str → Str → Nat) : List Str → Nat
  | x :: y :: r => w x y + ctF w (y :: r)
  | _ => 0
section
variable {w : Str → Str → Nat}
theorem ctF_join : ∀ {p r : List Str} {x : Str}, p.getLast? = some x → ctF w (p ++ r) = ctF w p + ctF w (x :: r)
  | [], _, _, h => nomatch h
  | [a], r, x, h => by
    have : a = x := by simpa using h
    subst this
    show _ = 0 + _
    rw [Nat.zero_add]
    rfl
  | a :: b :: q, r, x, h => by
    have h' : (b :: q).getLast? = some x := by rw [List.getLast?_cons_cons] at h; exact h
    have ih := ctF_join (p := b :: q) (r := r) h'
    show w a b + ctF w (b :: q ++ r) = w a b + ctF w (b :: q) + _
    rw [ih]
    omega
theorem ctF_snoc {p : List Str} {x o : Str} (h : p.getLast? = some x) : ctF w (p ++ [o]) = ctF w p + w x o := by
  rw [ctF_join h]
  rfl
end
/-! ### ranks -/
def dRk (c : Nat) (p : List Str) : PyData := .tuple [.int c, .int p.length, .list (p.map PyData.str)]
def rl (w : Str → Str → Nat) (p q : List Str) : Bool := dataLt (dRk (ctF w p) p) (dRk (ctF w q) q)
section
variable {w : Str → Str → Nat} {p q r : List Str}
theorem rl_irrefl : rl w p p = false := lex_irrefl _
theorem rl_less (h : ctF w p < ctF w q ∨ (ctF w p = ctF w q ∧ p.length < q.length)) : rl w p q = true := by
  unfold rl dRk
  rw [dataLt_tuple]
  rcases h with h | ⟨e, h⟩
  · rw [dataLt_all_no (by simp [alike]) (by simp [PyData.eqv]; omega), dataLt_int]
    exact decide_eq_true (by omega)
  · rw [dataLt_all_yes (by simp [alike]) (by simp [PyData.eqv]; omega), dataLt_all_no (by simp [alike]) (by simp [PyData.eqv]; omega), dataLt_int]
    exact decide_eq_true (by omega)
theorem rl_cost (h : rl w p q = false) : ctF w q ≤ ctF w p := by
  by_cases z : ctF w p < ctF w q
  · rw [rl_less (.inl z)] at h
    cases h
  · omega
end
/-! ### all arrangements -/
/-! ### the paths found -/
structure ChS (ns : List Str) (es : List (Str × Str)) (w : Str → Str → Nat) (src ks : List Str) (P : Str → List Str) (qu : List Str) (pend : Str → Str → Prop) : Prop where
  nd : ks.Nodup
  inN : ∀ x ∈ ks, x ∈ ns
  sv : ∀ x ∈ src, x ∈ ks ∧ rl w [x] (P x) = false
  wk : ∀ x ∈ ks, Wk es (P x)
  hd : ∀ x ∈ ks, ∃ s ∈ src, (P x).head? = some s
  ls : ∀ x ∈ ks, (P x).getLast? = some x
  ndp : ∀ x ∈ ks, (P x).Nodup
  pin : ∀ x ∈ ks, ∀ y ∈ P x, y ∈ ns
  pre : ∀ x ∈ ks, ∀ a r, P x = a ++ r → ∀ z, a.getLast? = some z → z ∈ ks ∧ rl w a (P z) = false
  qin : ∀ x ∈ qu, x ∈ ks
  cl : ∀ x ∈ ks, ∀ o, Adj es x o → x ∈ qu ∨ pend x o ∨ (o ∈ ks ∧ rl w (P x ++ [o]) (P o) = false)
section
variable {ns : List Str} {es : List (Str × Str)} {f : Str → Int} {w : Str → Str → Nat} {src ks : List Str} {P : Str → List Str} {qu : List Str} {pend pend' : Str → Str → Prop}
theorem ChS.start (nd : src.Nodup) (hin : ∀ x ∈ src, x ∈ ns) : ChS ns es w src src (fun x => [x]) src (fun _ _ => False) := by
  refine ⟨nd, hin, fun x hx => ⟨hx, rl_irrefl⟩, fun _ _ => trivial, fun x hx => ⟨x, hx, rfl⟩, fun _ _ => rfl, fun x _ => by simp, fun x hx y hy => ?_, fun x hx a r e z hz => ?_, fun _ h => h, fun x hx o _ => .inl hx⟩
  · rw [List.mem_singleton.mp hy]
    exact hin x hx
  · cases a with
    | nil => cases hz
    | cons b a =>
      rw [List.cons_append] at e
      obtain ⟨rfl, e2⟩ := List.cons.inj e
      obtain ⟨rfl, rfl⟩ := List.append_eq_nil_iff.mp e2.symm
      cases hz
      exact ⟨hx, rl_irrefl⟩
theorem ChS.weak (c : ChS ns es w src ks P qu pend) {qu' : List Str} {pend' : Str → Str → Prop} (hq : ∀ x ∈ qu', x ∈ ks) (h : ∀ x ∈ ks, ∀ o, Adj es x o → (x ∈ qu ∨ pend x o) → x ∈ qu' ∨ pend' x o ∨ (o ∈ ks ∧ rl w (P x ++ [o]) (P o) = false)) : ChS ns es w src ks P qu' pend' :=
  ⟨c.nd, c.inN, c.sv, c.wk, c.hd, c.ls, c.ndp, c.pin, c.pre, hq, fun x hx o a => by
    rcases c.cl x hx o a with z | z | z
    · exact h x hx o a (.inl z)
    · exact h x hx o a (.inr z)
    · exact .inr (.inr z)⟩
/-- c is what the cheapest way from src to x costs -/
structure MinC (es : List (Str × Str)) (w : Str → Str → Nat) (src : List Str) (x : Str) (c : Nat) : Prop where
  ex : ∃ q, ∃ s ∈ src, Wk es q ∧ q.head? = some s ∧ q.getLast? = some x ∧ ctF w q = c
  le : ∀ q, ∀ s ∈ src, Wk es q → q.head? = some s → q.getLast? = some x → c ≤ ctF w q
theorem MinC.uniq {x : Str} {c d : Nat} (a : MinC es w src x c) (b : MinC es w src x d) : c = d := by
  obtain ⟨q, s, hs, h1, h2, h3, h4⟩ := a.ex
  obtain ⟨q', s', hs', h1', h2', h3', h4'⟩ := b.ex
  have := a.le q' s' hs' h1' h2' h3'
  have := b.le q s hs h1 h2 h3
  omega
/-- what is found at the end -/
theorem ChS.fin (c : ChS ns es w src ks P [] (fun _ _ => False)) : (∀ x ∈ ks, MinC es w src x (ctF w (P x))) ∧ ∀ q, ∀ s ∈ src, Wk es q → q.head? = some s → ∀ x, q.getLast? = some x → x ∈ ks := by
  have key : ∀ (r : List Str) (a : Str), a ∈ ks → Wk es (a :: r) → ∀ y, (a :: r).getLast? = some y → y ∈ ks ∧ ctF w (P y) ≤ ctF w (P a) + ctF w (a :: r) := by
    intro r
    induction r with
    | nil =>
      intro a ha _ y hy
      have : a = y := by simpa using hy
      subst this
      exact ⟨ha, Nat.le_add_right _ _⟩
    | cons b r ih =>
      intro a ha wk y hy
      rw [List.getLast?_cons_cons] at hy
      rcases c.cl a ha b wk.1 with h | h | ⟨h1, h2⟩
      · cases h
      · exact h.elim
      · obtain ⟨y1, y2⟩ := ih b h1 wk.2 y hy
        have k1 := rl_cost h2
        rw [ctF_snoc (c.ls a ha)] at k1
        refine ⟨y1, ?_⟩
        show _ ≤ ctF w (P a) + (w a b + ctF w (b :: r))
        omega
  have all : ∀ q, ∀ s ∈ src, Wk es q → q.head? = some s → ∀ x, q.getLast? = some x → x ∈ ks ∧ ctF w (P x) ≤ ctF w q := fun q s hs wk hq x hx => by
    cases q with
    | nil => cases hq
    | cons a r =>
      obtain rfl : a = s := Option.some.inj hq
      obtain ⟨s1, s2⟩ := c.sv a hs
      obtain ⟨y1, y2⟩ := key r a s1 wk x hx
      have := rl_cost s2
      have e0 : ctF w [a] = 0 := rfl
      exact ⟨y1, by omega⟩
  refine ⟨fun x hx => ⟨?_, fun q s hs wk hq hl => (all q s hs wk hq x hl).2⟩, fun q s hs wk hq x hl => (all q s hs wk hq x hl).1⟩
  obtain ⟨s, hs, e⟩ := c.hd x hx
  exact ⟨P x, s, hs, c.wk x hx, e, c.ls x hx, rfl⟩
end
end U

/-! cheapest ways found round by round; what costs nothing: the plain law -/
namespace U
open PySem PySem.Spec PyProof.Rows L2
section
variable {ns : List Str} {es : List (Str × Str)} {f : Str → Int} {w : Str → Str → Nat} {src ks : List Str} {c : Str → Nat}
theorem wk_right : ∀ {a b : List Str}, Wk es (a ++ b) → Wk es b
  | [], _, h => h
  | [x], [], _ => trivial
  | [x], y :: r, h => h.2
  | x :: y :: r, b, h => wk_right (a := y :: r) h.2
theorem twice : ∀ {q : List Str}, ¬ q.Nodup → ∃ y a b c, q = a ++ y :: (b ++ y :: c)
  | [], h => absurd List.nodup_nil h
  | x :: r, h => by
    by_cases hx : x ∈ r
    · obtain ⟨b, c, e⟩ := List.append_of_mem hx
      exact ⟨x, [], b, c, by rw [e]; rfl⟩
    · obtain ⟨y, a, b, c, e⟩ := twice (q := r) fun z => h (List.nodup_cons.mpr ⟨hx, z⟩)
      exact ⟨y, x :: a, b, c, by rw [e]; rfl⟩
/-- a way without a node twice costs no more -/
theorem simple_wk {s x : Str} : ∀ (k : Nat) {q : List Str}, q.length ≤ k → Wk es q → q.head? = some s → q.getLast? = some x → ∃ q', q'.Nodup ∧ Wk es q' ∧ q'.head? = some s ∧ q'.getLast? = some x ∧ ctF w q' ≤ ctF w q ∧ ∀ y ∈ q', y ∈ q
  | 0, [], _, _, h, _ => nomatch h
  | 0, _ :: _, h, _, _, _ => absurd h (by simp)
  | k + 1, q, hk, wk, h1, h2 => by
    by_cases nd : q.Nodup
    · exact ⟨q, nd, wk, h1, h2, Nat.le_refl _, fun _ h => h⟩
    · obtain ⟨y, a, b, c, rfl⟩ := twice nd
      have e1 : a ++ y :: (b ++ y :: c) = (a ++ [y]) ++ (b ++ y :: c) := by simp
      have e2 : a ++ y :: c = (a ++ [y]) ++ c := by simp
      have wl : Wk es (a ++ [y]) := by rw [e1] at wk; exact wk.left
      have wr : Wk es (y :: c) := by
        have : a ++ y :: (b ++ y :: c) = (a ++ y :: b) ++ (y :: c) := by simp
        rw [this] at wk
        exact wk_right wk
      have ly : (a ++ [y]).getLast? = some y := by simp
      have cost : ctF w (a ++ y :: c) ≤ ctF w (a ++ y :: (b ++ y :: c)) := by
        rw [e1, e2, ctF_join ly, ctF_join ly]
        have e3 : y :: (b ++ y :: c) = ((y :: b) ++ [y]) ++ c := by simp
        have ly2 : ((y :: b) ++ [y]).getLast? = some y := by
          rw [List.getLast?_append]
          rfl
        rw [e3, ctF_join ly2]
        omega
      have lastE : (a ++ y :: c).getLast? = some x := by
        rw [← h2]
        rw [List.getLast?_append, List.getLast?_append]
        have : (y :: (b ++ y :: c)).getLast? = (y :: c).getLast? := by
          rw [show y :: (b ++ y :: c) = (y :: b) ++ (y :: c) from rfl, List.getLast?_append]
          cases hh : (y :: c).getLast? with
          | none => simp at hh
          | some z => rfl
        rw [this]
      have headE : (a ++ y :: c).head? = some s := by
        rw [← h1]
        cases a with
        | nil => rfl
        | cons z a => rfl
      obtain ⟨q', n1, n2, n3, n4, n5, n6⟩ := simple_wk k (q := a ++ y :: c) (by simp only [List.length_append, List.length_cons] at hk ⊢; omega) (by rw [e2]; exact wl.join ly wr) headE lastE
      refine ⟨q', n1, n2, n3, n4, Nat.le_trans n5 cost, fun z hz => ?_⟩
      have := n6 z hz
      rcases List.mem_append.mp this with h | h
      · exact List.mem_append_left _ h
      · refine List.mem_append_right _ ?_
        rcases List.mem_cons.mp h with h | h
        · rw [h]; exact List.mem_cons_self
        · exact List.mem_cons_of_mem _ (List.mem_append_right _ (List.mem_cons_of_mem _ h))
theorem wk_in (ok : EsOk ns es f) : ∀ {q : List Str} {s : Str}, s ∈ ns → q.head? = some s → Wk es q → ∀ y ∈ q, y ∈ ns
  | [x], s, hs, h, _, y, hy => by
    obtain rfl : x = s := Option.some.inj h
    rw [List.mem_singleton.mp hy]
    exact hs
  | x :: z :: r, s, hs, h, wk, y, hy => by
    obtain rfl : x = s := Option.some.inj h
    rcases List.mem_cons.mp hy with rfl | hy
    · exact hs
    · exact wk_in ok (q := z :: r) (adj_in ok wk.1).2.1 rfl wk.2 y hy
/-- found so far, all ways of at most t steps done -/
structure BfS (ns : List Str) (es : List (Str × Str)) (w : Str → Str → Nat) (src ks : List Str) (c : Str → Nat) (t : Nat) : Prop where
  nd : ks.Nodup
  inN : ∀ x ∈ ks, x ∈ ns
  ex : ∀ x ∈ ks, ∃ q, ∃ s ∈ src, Wk es q ∧ q.head? = some s ∧ q.getLast? = some x ∧ ctF w q = c x
  all : ∀ q, ∀ s ∈ src, Wk es q → q.head? = some s → ∀ x, q.getLast? = some x → q.length ≤ t + 1 → x ∈ ks ∧ c x ≤ ctF w q
theorem BfS.start (nd : src.Nodup) (hin : ∀ x ∈ src, x ∈ ns) : BfS ns es w src src (fun _ => 0) 0 := by
  refine ⟨nd, hin, fun x hx => ⟨[x], x, hx, trivial, rfl, rfl, rfl⟩, fun q s hs _ h1 x h2 hl => ?_⟩
  cases q with
  | nil => cases h1
  | cons a r =>
    cases r with
    | nil =>
      obtain rfl : a = s := Option.some.inj h1
      obtain rfl : a = x := Option.some.inj h2
      exact ⟨hs, Nat.le_refl _⟩
    | cons b r => simp at hl
/-- within a round: from k0, c0 at its start; what was looked at -/
structure BfR (ns : List Str) (es : List (Str × Str)) (w : Str → Str → Nat) (src k0 : List Str) (c0 : Str → Nat) (ks : List Str) (c : Str → Nat) (dn : Str → Str → Prop) : Prop where
  nd : ks.Nodup
  inN : ∀ x ∈ ks, x ∈ ns
  ex : ∀ x ∈ ks, ∃ q, ∃ s ∈ src, Wk es q ∧ q.head? = some s ∧ q.getLast? = some x ∧ ctF w q = c x
  mono : ∀ x ∈ k0, x ∈ ks ∧ c x ≤ c0 x
  done : ∀ x o, dn x o → x ∈ k0 → o ∈ ks ∧ c o ≤ c0 x + w x o
theorem BfR.weak {k0 : List Str} {c0 : Str → Nat} {dn dn' : Str → Str → Prop} (b : BfR ns es w src k0 c0 ks c dn) (h : ∀ x o, dn' x o → dn x o) : BfR ns es w src k0 c0 ks c dn' := ⟨b.nd, b.inN, b.ex, b.mono, fun x o z => b.done x o (h x o z)⟩
/-- a pair whose first is not yet found -/
theorem BfR.skip {k0 : List Str} {c0 : Str → Nat} {dn : Str → Str → Prop} (b : BfR ns es w src k0 c0 ks c dn) {x o : Str} (hx : x ∉ ks) : BfR ns es w src k0 c0 ks c (fun y z => dn y z ∨ (y = x ∧ z = o)) :=
  ⟨b.nd, b.inN, b.ex, b.mono, fun y z h hy => by
    rcases h with h | ⟨rfl, rfl⟩
    · exact b.done y z h hy
    · exact absurd (b.mono y hy).1 hx⟩
/-- a pair that brings nothing -/
theorem BfR.keep {k0 : List Str} {c0 : Str → Nat} {dn : Str → Str → Prop} (b : BfR ns es w src k0 c0 ks c dn) {x o : Str} (hx : x ∈ ks) (ho : o ∈ ks) (le : c o ≤ c x + w x o) : BfR ns es w src k0 c0 ks c (fun y z => dn y z ∨ (y = x ∧ z = o)) :=
  ⟨b.nd, b.inN, b.ex, b.mono, fun y z h hy => by
    rcases h with h | ⟨rfl, rfl⟩
    · exact b.done y z h hy
    · have := (b.mono y hy).2
      exact ⟨ho, by omega⟩⟩
/-- a pair that brings less -/
theorem BfR.less (ok : EsOk ns es f) {k0 : List Str} {c0 : Str → Nat} {dn : Str → Str → Prop} (b : BfR ns es w src k0 c0 ks c dn) {x o : Str} (hx : x ∈ ks) (ad : Adj es x o) (better : o ∉ ks ∨ c x + w x o < c o) {ks' : List Str} (ek : ks' = if o ∈ ks then ks else ks ++ [o]) {c' : Str → Nat} (ec : ∀ y, c' y = if y = o then c x + w x o else c y) :
    BfR ns es w src k0 c0 ks' c' (fun y z => dn y z ∨ (y = x ∧ z = o)) := by
  obtain ⟨_, on, _, nxo⟩ := adj_in ok ad
  have ino : o ∈ ks' := by
    rw [ek]
    split
    · assumption
    · exact List.mem_append_right _ List.mem_cons_self
  have up : ∀ y ∈ ks, y ∈ ks' := fun y hy => by
    rw [ek]
    split
    · exact hy
    · exact List.mem_append_left _ hy
  have dn' : ∀ y ∈ ks', y = o ∨ y ∈ ks := fun y hy => by
    rw [ek] at hy
    split at hy
    · exact .inr hy
    · rcases List.mem_append.mp hy with hy | hy
      · exact .inr hy
      · exact .inl (List.mem_singleton.mp hy)
  have le : ∀ y ∈ ks, c' y ≤ c y := fun y hy => by
    rw [ec]
    by_cases z : y = o
    · rw [if_pos z]
      rcases better with h | h
      · exact absurd (by rw [← z]; exact hy) h
      · rw [z]; omega
    · rw [if_neg z]; exact Nat.le_refl _
  refine ⟨?_, fun y hy => ?_, fun y hy => ?_, fun y hy => ?_, fun y z h hy => ?_⟩
  · rw [ek]
    split
    · exact b.nd
    · rename_i h
      rw [List.nodup_append]
      exact ⟨b.nd, by simp, fun a ha b hb e => h (by rw [← List.mem_singleton.mp hb, ← e]; exact ha)⟩
  · rcases dn' y hy with rfl | h
    · exact on
    · exact b.inN y h
  · rw [ec]
    by_cases z : y = o
    · rw [if_pos z, z]
      obtain ⟨q, s, hs, h1, h2, h3, h4⟩ := b.ex x hx
      refine ⟨q ++ [o], s, hs, h1.snoc h3 ad, by rw [List.head?_append, h2]; rfl, by simp, ?_⟩
      rw [ctF_snoc h3, h4]
    · rw [if_neg z]
      exact b.ex y ((dn' y hy).resolve_left z)
  · obtain ⟨h1, h2⟩ := b.mono y hy
    exact ⟨up y h1, Nat.le_trans (le y h1) h2⟩
  · rcases h with h | ⟨rfl, rfl⟩
    · obtain ⟨h1, h2⟩ := b.done y z h hy
      exact ⟨up z h1, Nat.le_trans (le z h1) h2⟩
    · have := (b.mono y hy).2
      exact ⟨ino, by rw [ec, if_pos rfl]; omega⟩
/-- a round is over -/
theorem BfR.over {k0 : List Str} {c0 : Str → Nat} {t : Nat} {dn : Str → Str → Prop} (b0 : BfS ns es w src k0 c0 t) (b : BfR ns es w src k0 c0 ks c dn) (h : ∀ x o, x ∈ ns → Adj es x o → dn x o) : BfS ns es w src ks c (t + 1) := by
  refine ⟨b.nd, b.inN, b.ex, fun q s hs wk h1 x h2 hl => ?_⟩
  by_cases z : q.length ≤ t + 1
  · obtain ⟨a1, a2⟩ := b0.all q s hs wk h1 x h2 z
    obtain ⟨m1, m2⟩ := b.mono x a1
    exact ⟨m1, Nat.le_trans m2 a2⟩
  · rcases List.eq_nil_or_concat q with rfl | ⟨r, o, rfl⟩
    · cases h1
    rw [List.concat_eq_append] at *
    obtain rfl : o = x := by simpa using h2
    have rl : r.length ≤ t + 1 := by
      rw [List.length_append, List.length_singleton] at hl
      omega
    cases hr : r.getLast? with
    | none =>
      rw [List.getLast?_eq_none_iff] at hr
      subst hr
      simp at z
    | some y =>
      have wr : Wk es r := wk.left
      have hh : r.head? = some s := by
        cases r with
        | nil => cases hr
        | cons a r => exact h1
      obtain ⟨a1, a2⟩ := b0.all r s hs wr hh y hr rl
      have ad : Adj es y o := by
        rcases List.eq_nil_or_concat r with rfl | ⟨r0, y', rfl⟩
        · cases hr
        rw [List.concat_eq_append] at *
        obtain rfl : y' = y := by simpa using hr
        rw [List.append_assoc] at wk
        exact (wk_right wk).1
      obtain ⟨d1, d2⟩ := b.done y o (h y o (b0.inN y a1) ad) a1
      rw [ctF_snoc hr]
      exact ⟨d1, by omega⟩
theorem BfS.fin (ok : EsOk ns es f) (hin : ∀ x ∈ src, x ∈ ns) {t : Nat} (b : BfS ns es w src ks c t) (ht : ns.length ≤ t + 1) : (∀ x ∈ ks, MinC es w src x (c x)) ∧ ∀ q, ∀ s ∈ src, Wk es q → q.head? = some s → ∀ x, q.getLast? = some x → x ∈ ks := by
  have key : ∀ q, ∀ s ∈ src, Wk es q → q.head? = some s → ∀ x, q.getLast? = some x → x ∈ ks ∧ c x ≤ ctF w q := fun q s hs wk h1 x h2 => by
    obtain ⟨q', n1, n2, n3, n4, n5, _⟩ := simple_wk (w := w) q.length (Nat.le_refl _) wk h1 h2
    obtain ⟨a1, a2⟩ := b.all q' s hs n2 n3 x n4 (Nat.le_trans (nodup_len n1 (wk_in ok (hin s hs) n3 n2)) ht)
    exact ⟨a1, Nat.le_trans a2 n5⟩
  exact ⟨fun x hx => ⟨b.ex x hx, fun q s hs wk h1 h2 => (key q s hs wk h1 x h2).2⟩, fun q s hs wk h1 x h2 => (key q s hs wk h1 x h2).1⟩
end
/-! ### what costs nothing -/
section
variable {ns : List Str} {es : List (Str × Str)} {f : Str → Int}
def wF (f : Str → Int) (dr : Int) (x y : Str) : Nat := if slp f x y = dr then 1 else 0
theorem free_rr {dr : Int} (hd : dr = 1 ∨ dr = -1) : ∀ {q : List Str} {s x : Str}, Wk es q → q.head? = some s → q.getLast? = some x → ctF (wF f dr) q = 0 → Rr es f (-dr) s x
  | [a], s, x, _, h1, h2, _ => by
    obtain rfl : a = s := Option.some.inj h1
    obtain rfl : a = x := Option.some.inj h2
    exact .refl
  | a :: b :: r, s, x, wk, h1, h2, h0 => by
    obtain rfl : a = s := Option.some.inj h1
    have h0 : wF f dr a b + ctF (wF f dr) (b :: r) = 0 := h0
    rw [List.getLast?_cons_cons] at h2
    have ih := free_rr hd (q := b :: r) wk.2 rfl h2 (by omega)
    have sl : slp f a b = -dr := by
      have : wF f dr a b = 0 := by omega
      unfold wF at this
      split at this
      · cases this
      · rename_i h
        rcases slp_pm f a b with z | z <;> rcases hd with rfl | rfl <;> first | exact z | exact absurd z h
    exact (rr_snoc .refl wk.1 sl).trans ih
theorem rr_free {dr : Int} (hd : dr = 1 ∨ dr = -1) {s x : Str} (r : Rr es f (-dr) s x) : ∃ q, Wk es q ∧ q.head? = some s ∧ q.getLast? = some x ∧ ctF (wF f dr) q = 0 := by
  induction r with
  | refl => exact ⟨[s], trivial, rfl, rfl, rfl⟩
  | @step a b _ m o ih =>
    obtain ⟨q, h1, h2, h3, h4⟩ := ih
    have ad : Adj es a b := nbS_mem.mp m
    have sl : slp f a b = -dr := of_decide_eq_true o
    refine ⟨q ++ [b], h1.snoc h3 ad, by rw [List.head?_append, h2]; rfl, by simp, ?_⟩
    rw [ctF_snoc h3, h4]
    unfold wF
    rw [if_neg fun z => ?_]
    rcases hd with rfl | rfl <;> omega
theorem rr_rev2 (ok : EsOk ns es f) {dr : Int} (hd : dr = 1 ∨ dr = -1) {x y : Str} (r : Rr es f dr x y) : Rr es f (-dr) y x := by
  induction r with
  | refl => exact .refl
  | @step a b _ m o ih =>
    have ad : Adj es a b := nbS_mem.mp m
    have sl : slp f a b = dr := of_decide_eq_true o
    exact (rr_snoc .refl ad.symm (by rw [slp_neg ok ad, sl])).trans ih
/-- the nodes that are reached, and their cheapest costs -/
structure CstP (ns : List Str) (es : List (Str × Str)) (f : Str → Int) (src : List Str) (dr : Int) (ks : List Str) (c : Str → Nat) : Prop where
  nd : ks.Nodup
  inN : ∀ x ∈ ks, x ∈ ns
  min : ∀ x ∈ ks, MinC es (wF f dr) src x (c x)
  all : ∀ q, ∀ s ∈ src, Wk es q → q.head? = some s → ∀ x, q.getLast? = some x → x ∈ ks
variable {src ks ks2 : List Str} {c c2 : Str → Nat} {dr : Int}
theorem CstP.sub (a : CstP ns es f src dr ks c) {dr2 : Int} (b : CstP ns es f src dr2 ks2 c2) : ∀ x ∈ ks, x ∈ ks2 := fun x hx => by
  obtain ⟨q, s, hs, h1, h2, h3, _⟩ := (a.min x hx).ex
  exact b.all q s hs h1 h2 x h3
theorem CstP.perm (a : CstP ns es f src dr ks c) {dr2 : Int} (b : CstP ns es f src dr2 ks2 c2) : ks.Perm ks2 := (List.perm_ext_iff_of_nodup a.nd b.nd).mpr fun x => ⟨a.sub b x, b.sub a x⟩
theorem CstP.same (a : CstP ns es f src dr ks c) (b : CstP ns es f src dr ks2 c2) {x : Str} (hx : x ∈ ks) : c x = c2 x := (a.min x hx).uniq (b.min x (a.sub b x hx))
theorem CstP.zero (ok : EsOk ns es f) (hd : dr = 1 ∨ dr = -1) (a : CstP ns es f src dr ks c) {x : Str} (hx : x ∈ ks) : c x = 0 ↔ ∃ s ∈ src, Rr es f dr x s := by
  constructor
  · intro h
    obtain ⟨q, s, hs, h1, h2, h3, h4⟩ := (a.min x hx).ex
    have r := rr_rev2 ok (dr := -dr) (by omega) (free_rr hd h1 h2 h3 (by omega))
    rw [Int.neg_neg] at r
    exact ⟨s, hs, r⟩
  · rintro ⟨s, hs, r⟩
    obtain ⟨q, h1, h2, h3, h4⟩ := rr_free hd (rr_rev2 ok hd r)
    have := (a.min x hx).le q s hs h1 h2 h3
    omega
theorem CstP.reach (ok : EsOk ns es f) (hd : dr = 1 ∨ dr = -1) (a : CstP ns es f src dr ks c) {x : Str} (h : ∃ s ∈ src, Rr es f dr x s) : x ∈ ks := by
  obtain ⟨s, hs, r⟩ := h
  obtain ⟨q, h1, h2, h3, _⟩ := rr_free hd (rr_rev2 ok hd r)
  exact a.all q s hs h1 h2 x h3
end
end U

/-! all states that can be reached, found breadth-first: the plain law -/
namespace U
open PySem PySem.Spec PyProof.Rows L2
section
variable {ns : List Str} {es : List (Str × Str)} {f g h : Str → Int} {pn : List Str}
/-- the states found so far, the first at of them done -/
structure RchS (ns : List Str) (es : List (Str × Str)) (pn : List Str) (f : Str → Int) (ss : List (List Int × Nat)) (at_ : Nat) : Prop where
  nd : (ss.map (·.1)).Nodup
  ok : ∀ s ∈ ss, ∃ ms f', Plays ns es pn f ms f' ∧ ms.length = s.2 ∧ s.1 = ns.map f'
  z : ∃ r, ss = (ns.map f, 0) :: r
  mono : ∀ i j (hi : i ≤ j) (hj : j < ss.length), (ss[i]'(Nat.lt_of_le_of_lt hi hj)).2 ≤ ss[j].2
  top : ∀ (h : at_ < ss.length) j (hj : j < ss.length), ss[j].2 ≤ ss[at_].2 + 1
  cl : ∀ i (h : i < ss.length), i < at_ → ∀ f1, EsOk ns es f1 → ss[i].1 = ns.map f1 → ∀ m, Legal ns es f1 pn m → ∃ k, k ≤ ss[i].2 + 1 ∧ (ns.map (updf f1 m.1 m.2), k) ∈ ss
theorem RchS.start : RchS ns es pn f [(ns.map f, 0)] 0 := by
  refine ⟨by simp, fun s hs => ?_, ⟨[], rfl⟩, fun i j hi hj => ?_, fun h j hj => ?_, fun i h hi => absurd hi (Nat.not_lt_zero _)⟩
  · rw [List.mem_singleton.mp hs]
    exact ⟨[], f, .nil, rfl, rfl⟩
  · have : j = 0 := by
      have : j < 1 := hj
      omega
    subst this
    have : i = 0 := by omega
    subst this
    exact Nat.le_refl _
  · have : j = 0 := by
      have : j < 1 := hj
      omega
    subst this
    exact Nat.zero_le _
/-- one more -/
theorem RchS.add {ss : List (List Int × Nat)} {a : Nat} (r : RchS ns es pn f ss a) (ha : a < ss.length) {f1 : Str → Int} (e1 : ss[a].1 = ns.map f1) (ok1 : EsOk ns es f1) {m : Str × Int} (lg : Legal ns es f1 pn m) (new : ns.map (updf f1 m.1 m.2) ∉ ss.map (·.1)) :
    RchS ns es pn f (ss ++ [(ns.map (updf f1 m.1 m.2), ss[a].2 + 1)]) a := by
  have at1 : ∀ j (hj : j < ss.length) (hj2 : j < (ss ++ [(ns.map (updf f1 m.1 m.2), ss[a].2 + 1)]).length), (ss ++ [(ns.map (updf f1 m.1 m.2), ss[a].2 + 1)])[j] = ss[j] := fun j hj _ => List.getElem_append_left hj
  have at2 : ∀ j (hj2 : j < (ss ++ [(ns.map (updf f1 m.1 m.2), ss[a].2 + 1)]).length), ¬ j < ss.length → (ss ++ [(ns.map (updf f1 m.1 m.2), ss[a].2 + 1)])[j] = (ns.map (updf f1 m.1 m.2), ss[a].2 + 1) := fun j hj2 hn => by
    rw [List.length_append, List.length_singleton] at hj2
    have : j = ss.length := by omega
    subst this
    rw [List.getElem_append_right (Nat.le_refl _)]
    simp
  obtain ⟨r0, ez⟩ := r.z
  refine ⟨?_, fun s hs => ?_, ⟨r0 ++ [(ns.map (updf f1 m.1 m.2), ss[a].2 + 1)], congrArg (fun l => l ++ [(ns.map (updf f1 m.1 m.2), ss[a].2 + 1)]) ez⟩, fun i j hi hj => ?_, fun h j hj => ?_, fun i h hi g1 og eg m' lm => ?_⟩
  · rw [List.map_append, List.nodup_append]
    refine ⟨r.nd, by simp, fun x hx y hy e => ?_⟩
    rw [List.map_cons, List.map_nil, List.mem_singleton] at hy
    rw [e, hy] at hx
    exact new hx
  · rcases List.mem_append.mp hs with hs | hs
    · exact r.ok s hs
    · rw [List.mem_singleton.mp hs]
      obtain ⟨ms, f', p, l, e⟩ := r.ok _ (List.getElem_mem ha)
      have ag := e.symm.trans e1
      rw [List.map_inj_left] at ag
      have lg' : Legal ns es f' pn m := ⟨lg.mem, lg.pin, lg.val, by rw [ag _ lg.mem]; exact lg.own, fun z hz => by
        have : z ∈ ns := by
          rcases hz with hz | hz
          · exact (ok1.mem _ hz).2
          · exact (ok1.mem _ hz).1
        rw [ag z this]
        exact lg.nbr z hz⟩
      refine ⟨_, _, p.snoc lg', by rw [List.length_append, l]; rfl, ?_⟩
      show ns.map (updf f1 m.1 m.2) = ns.map (updf f' m.1 m.2)
      have ee := e.symm.trans e1
      rw [List.map_inj_left] at ee
      refine List.map_congr_left fun x hx => ?_
      unfold updf
      rw [ee x hx]
  · by_cases q : j < ss.length
    · rw [at1 j q hj, at1 i (by omega) (by omega)]
      exact r.mono i j hi q
    · rw [at2 j hj q]
      by_cases q2 : i < ss.length
      · rw [at1 i q2 (by omega)]
        exact r.top ha i q2
      · rw [at2 i (by omega) q2]
        exact Nat.le_refl _
  · rw [at1 a ha h]
    by_cases q : j < ss.length
    · rw [at1 j q hj]
      exact r.top ha j q
    · rw [at2 j hj q]
      exact Nat.le_refl _
  · have q : i < ss.length := by omega
    rw [at1 i q h] at eg ⊢
    obtain ⟨k, k1, k2⟩ := r.cl i q hi g1 og eg m' lm
    exact ⟨k, k1, List.mem_append_left _ k2⟩
/-- one is done -/
theorem RchS.done {ss : List (List Int × Nat)} {a : Nat} (r : RchS ns es pn f ss a) (ha : a < ss.length) (all : ∀ f1, EsOk ns es f1 → ss[a].1 = ns.map f1 → ∀ m, Legal ns es f1 pn m → ∃ k, k ≤ ss[a].2 + 1 ∧ (ns.map (updf f1 m.1 m.2), k) ∈ ss) : RchS ns es pn f ss (a + 1) :=
  ⟨r.nd, r.ok, r.z, r.mono, fun h j hj => Nat.le_trans (r.top ha j hj) (Nat.add_le_add_right (r.mono a (a + 1) (Nat.le_succ _) h) 1), fun i h hi f1 o1 e1 m lm => by
    by_cases q : i = a
    · subst q
      exact all f1 o1 e1 m lm
    · exact r.cl i h (by omega) f1 o1 e1 m lm⟩
/-- all that moves reach is found, at its distance -/
theorem RchS.all {ss : List (List Int × Nat)} (r : RchS ns es pn f ss ss.length) (okf : EsOk ns es f) (nd : ns.Nodup) {ms : List (Str × Int)} {f' : Str → Int} (p : Plays ns es pn f ms f') : ∃ k, k ≤ ms.length ∧ (ns.map f', k) ∈ ss := by
  induction p with
  | nil =>
    obtain ⟨r0, e⟩ := r.z
    exact ⟨0, Nat.le_refl _, by rw [e]; exact List.mem_cons_self⟩
  | @snoc ms f1 m p lg ih =>
    obtain ⟨k, k1, k2⟩ := ih
    obtain ⟨ok1, _⟩ := plays_lift okf nd p
    obtain ⟨i, hi, e⟩ := List.mem_iff_getElem.mp k2
    obtain ⟨k', q1, q2⟩ := r.cl i hi hi f1 ok1 (by rw [e]) m lg
    rw [e] at q1
    refine ⟨k', ?_, q2⟩
    rw [List.length_append, List.length_singleton]
    have : k' ≤ k + 1 := q1
    omega
/-- a feasible lift is played, one move for each unit -/
theorem lft_plays (okf : EsOk ns es f) (okg : EsOk ns es g) (nd : ns.Nodup) (l : Lft ns es f g pn h) : ∃ ms f', Plays ns es pn f ms f' ∧ (ms.length : Int) = sz ns h ∧ ∀ x ∈ ns, f' x = g x := by
  have key : ∀ (n : Nat) (ms : List (Str × Int)) (f' h' : Str → Int), AnyR ns es pn f h ms f' h' → sz ns h' = n → ∃ ms f' h', AnyR ns es pn f h ms f' h' ∧ sz ns h' = 0 := by
    intro n
    induction n with
    | zero => exact fun ms f' h' r e => ⟨ms, f', h', r, e⟩
    | succ n ih =>
      intro ms f' h' r e
      obtain ⟨ok', fe', _, _, _⟩ := r.keeps okf nd l.1
      cases ep : progF ns es f' h' pn with
      | nil =>
        have := (prog_some ok' nd fe').mp ep
        omega
      | cons m0 r0 =>
        have hm : m0 ∈ progF ns es f' h' pn := by rw [ep]; exact List.mem_cons_self
        have s := (prog_step ok' nd fe' hm).2.2.1
        exact ih _ _ _ (.snoc r hm) (by omega)
  have s0 := sz_nn (xs := ns) (h := h)
  obtain ⟨ms, f', h', r, z⟩ := key (sz ns h).toNat [] f h .nil (by omega)
  obtain ⟨_, _, szl, _, pl⟩ := r.keeps okf nd l.1
  have fin := r.done okf nd l.1 z
  refine ⟨ms, f', pl, by omega, fun x hx => ?_⟩
  rw [fin x hx]
  have := l.2 x hx
  have := okg.tri x hx
  omega
/-- what is found is what lifts reach -/
theorem RchS.lft {ss : List (List Int × Nat)} (r : RchS ns es pn f ss ss.length) (okf : EsOk ns es f) (okg : EsOk ns es g) (nd : ns.Nodup) : ns.map g ∈ ss.map (·.1) ↔ ∃ h, Lft ns es f g pn h := by
  constructor
  · intro hm
    obtain ⟨s, hs, e⟩ := List.mem_map.mp hm
    obtain ⟨ms, f', p, _, e2⟩ := r.ok s hs
    have eq := e2.symm.trans e
    rw [List.map_inj_left] at eq
    obtain ⟨_, _, _, q⟩ := plays_lift okf nd p
    refine ⟨_, feas_count okf p, fun x hx => ?_⟩
    have a := q x hx
    have b := eq x hx
    omega
  · rintro ⟨h, l⟩
    obtain ⟨ms, f', p, _, e⟩ := lft_plays okf okg nd l
    obtain ⟨k, _, hk⟩ := r.all okf nd p
    have : ns.map f' = ns.map g := List.map_congr_left e
    rw [this] at hk
    exact List.mem_map_of_mem (f := (·.1)) hk
end
end U

/-! which pins a lift may keep: the plain law -/
namespace U
open PySem PySem.Spec PyProof.Rows L2
section
variable {ns : List Str} {es : List (Str × Str)} {f g h0 : Str → Int}
theorem Feas.less {h : Str → Int} {S S' : List Str} (fe : Feas ns es f h S) (sub : ∀ x ∈ S', x ∈ S) : Feas ns es f h S' := ⟨fe.fit, fun x hx => fe.pin x (sub x hx), fe.cyc⟩
theorem Lft.less {h : Str → Int} {S S' : List Str} (l : Lft ns es f g S h) (sub : ∀ x ∈ S', x ∈ S) : Lft ns es f g S' h := ⟨l.1.less sub, l.2⟩
structure CmpS (es : List (Str × Str)) (f h0 : Str → Int) (S : List Str) : Prop where
  cyc : ∀ x ∈ S, ∀ z, Con es x z → Cyc es f z → h0 x = 0
  mod : ∀ x ∈ S, h0 x % 3 = 0
  eq : ∀ x ∈ S, ∀ y ∈ S, Con es x y → h0 x = h0 y
theorem CmpS.less {S S' : List Str} (c : CmpS es f h0 S) (sub : ∀ x ∈ S', x ∈ S) : CmpS es f h0 S' := ⟨fun x hx => c.cyc x (sub x hx), fun x hx => c.mod x (sub x hx), fun x hx y hy => c.eq x (sub x hx) y (sub y hy)⟩
end
end U

namespace Law
open PySem PySem.Spec PyProof.Rows L2 U
def top (i : Nat) : Stmt := PySem.Challenge.pw_threeturned_k54_whole_refutations_checke.main.body.getD i (.Pass ⟨0, 0, 0, 0⟩)
abbrev s_InvalidPath_init : Stmt := inClass (top 2) 0
theorem sc_InvalidPath_init : FnScope ["self", "position"] ["self", "position"] (defScope s_InvalidPath_init) := ⟨rfl, rfl, rfl, by decide +kernel, rfl, by decide +kernel, by decide +kernel⟩
abbrev s_has_node : Stmt := top 7
theorem sc_has_node : FnScope ["graph", "candidate"] ["graph", "candidate"] (defScope s_has_node) := ⟨rfl, rfl, rfl, by decide +kernel, rfl, by decide +kernel, by decide +kernel⟩
abbrev s_check_node : Stmt := top 8
theorem sc_check_node : FnScope ["graph", "candidate"] ["graph", "candidate"] (defScope s_check_node) := ⟨rfl, rfl, rfl, by decide +kernel, rfl, by decide +kernel, by decide +kernel⟩
abbrev s_edge_of : Stmt := top 9
theorem sc_edge_of : FnScope ["first", "second"] ["first", "second"] (defScope s_edge_of) := ⟨rfl, rfl, rfl, by decide +kernel, rfl, by decide +kernel, by decide +kernel⟩
abbrev s_adjacency : Stmt := top 10
abbrev nN_adjacency : List Str := ["graph", "nodes", "edges", "found", "node", "one", "other", "some"]
theorem sc_adjacency : FnScope ["graph", "nodes", "edges", "found", "node", "one", "other", "some"] ["graph"] (defScope s_adjacency) := ⟨rfl, rfl, rfl, by decide +kernel, rfl, by decide +kernel, by decide +kernel⟩
abbrev s_check_path : Stmt := top 11
theorem sc_check_path : FnScope ["graph", "candidate", "position", "node"] ["graph", "candidate"] (defScope s_check_path) := ⟨rfl, rfl, rfl, by decide +kernel, rfl, by decide +kernel, by decide +kernel⟩
abbrev s_is_path : Stmt := top 12
theorem sc_is_path : FnScope ["graph", "candidate"] ["graph", "candidate"] (defScope s_is_path) := ⟨rfl, rfl, rfl, by decide +kernel, rfl, by decide +kernel, by decide +kernel⟩
abbrev s_paths_from : Stmt := top 13
theorem sc_paths_from : FnScope ["graph", "node", "adjacent", "found", "queue", "position", "current", "other"] ["graph", "node"] (defScope s_paths_from) := ⟨rfl, rfl, rfl, by decide +kernel, rfl, by decide +kernel, by decide +kernel⟩
abbrev s_slope : Stmt := top 17
theorem sc_slope : FnScope ["state", "node", "neighbor"] ["state", "node", "neighbor"] (defScope s_slope) := ⟨rfl, rfl, rfl, by decide +kernel, rfl, by decide +kernel, by decide +kernel⟩
abbrev s_sloped_paths : Stmt := top 18
theorem sc_sloped_paths : FnScope ["graph", "state", "node", "direction", "adjacent", "found", "queue", "position", "current", "other"] ["graph", "state", "node", "direction"] (defScope s_sloped_paths) := ⟨rfl, rfl, rfl, by decide +kernel, rfl, by decide +kernel, by decide +kernel⟩
abbrev s_smallest_path : Stmt := top 19
theorem sc_smallest_path : FnScope ["paths"] ["paths"] (defScope s_smallest_path) := ⟨rfl, rfl, rfl, by decide +kernel, rfl, by decide +kernel, by decide +kernel⟩
abbrev s_cycle_at : Stmt := top 20
abbrev nN_cycle_at : List Str := ["graph", "state", "node", "paths", "ends", "one"]
theorem sc_cycle_at : FnScope ["graph", "state", "node", "paths", "ends", "one"] ["graph", "state", "node"] (defScope s_cycle_at) := ⟨rfl, rfl, rfl, by decide +kernel, rfl, by decide +kernel, by decide +kernel⟩
abbrev s_cycle_nodes : Stmt := top 21
abbrev nN_cycle_nodes : List Str := ["graph", "state", "node"]
theorem sc_cycle_nodes : FnScope ["graph", "state", "node"] ["graph", "state"] (defScope s_cycle_nodes) := ⟨rfl, rfl, rfl, by decide +kernel, rfl, by decide +kernel, by decide +kernel⟩
abbrev s_find_anchors : Stmt := top 23
abbrev nN_find_anchors : List Str := ["graph", "state", "pinned", "on_cycles", "node"]
theorem sc_find_anchors : FnScope ["graph", "state", "pinned", "on_cycles", "node"] ["graph", "state", "pinned"] (defScope s_find_anchors) := ⟨rfl, rfl, rfl, by decide +kernel, rfl, by decide +kernel, by decide +kernel⟩
abbrev s_is_certificate_path : Stmt := top 24
abbrev nN_is_certificate_path : List Str := ["graph", "state", "candidate", "node", "direction", "pinned", "i"]
theorem sc_is_certificate_path : FnScope ["graph", "state", "candidate", "node", "direction", "pinned", "i"] ["graph", "state", "candidate", "node", "direction", "pinned"] (defScope s_is_certificate_path) := ⟨rfl, rfl, rfl, by decide +kernel, rfl, by decide +kernel, by decide +kernel⟩
abbrev s_is_frozen_certificate : Stmt := top 25
theorem sc_is_frozen_certificate : FnScope ["graph", "state", "node", "candidate", "pinned"] ["graph", "state", "node", "candidate", "pinned"] (defScope s_is_frozen_certificate) := ⟨rfl, rfl, rfl, by decide +kernel, rfl, by decide +kernel, by decide +kernel⟩
abbrev s_path_to_anchor : Stmt := top 26
abbrev nN_path_to_anchor : List Str := ["graph", "state", "node", "direction", "anchors", "pinned", "paths", "path", "one", "cycle"]
theorem sc_path_to_anchor : FnScope ["graph", "state", "node", "direction", "anchors", "pinned", "paths", "path", "one", "cycle"] ["graph", "state", "node", "direction", "anchors", "pinned"] (defScope s_path_to_anchor) := ⟨rfl, rfl, rfl, by decide +kernel, rfl, by decide +kernel, by decide +kernel⟩
abbrev s_frozen_certificate : Stmt := top 27
theorem sc_frozen_certificate : FnScope ["graph", "state", "node", "pinned", "anchors", "up", "down"] ["graph", "state", "node", "pinned"] (defScope s_frozen_certificate) := ⟨rfl, rfl, rfl, by decide +kernel, rfl, by decide +kernel, by decide +kernel⟩
abbrev s_is_integer : Stmt := top 29
theorem sc_is_integer : FnScope ["candidate"] ["candidate"] (defScope s_is_integer) := ⟨rfl, rfl, rfl, by decide +kernel, rfl, by decide +kernel, by decide +kernel⟩
abbrev s_is_value : Stmt := top 30
theorem sc_is_value : FnScope ["candidate"] ["candidate"] (defScope s_is_value) := ⟨rfl, rfl, rfl, by decide +kernel, rfl, by decide +kernel, by decide +kernel⟩
abbrev s_check_wanted : Stmt := top 33
abbrev nN_check_wanted : List Str := ["graph", "candidate", "node", "value"]
theorem sc_check_wanted : FnScope ["graph", "candidate", "node", "value"] ["graph", "candidate"] (defScope s_check_wanted) := ⟨rfl, rfl, rfl, by decide +kernel, rfl, by decide +kernel, by decide +kernel⟩
abbrev s_numbers_between : Stmt := top 34
abbrev nN_numbers_between : List Str := ["state", "wanted", "node", "least", "greatest", "number"]
theorem sc_numbers_between : FnScope ["state", "wanted", "node", "least", "greatest", "number"] ["state", "wanted", "node", "least", "greatest"] (defScope s_numbers_between) := ⟨rfl, rfl, rfl, by decide +kernel, rfl, by decide +kernel, by decide +kernel⟩
abbrev s_checked_bound : Stmt := top 35
abbrev nN_checked_bound : List Str := ["graph", "state", "candidate", "node", "known", "unbounded", "pinned", "direction", "path", "certificate", "steps", "index", "other"]
theorem sc_checked_bound : FnScope ["graph", "state", "candidate", "node", "known", "unbounded", "pinned", "direction", "path", "certificate", "steps", "index", "other"] ["graph", "state", "candidate", "node", "known", "unbounded", "pinned", "direction"] (defScope s_checked_bound) := ⟨rfl, rfl, rfl, by decide +kernel, rfl, by decide +kernel, by decide +kernel⟩
abbrev s_required_numbers : Stmt := top 36
abbrev nN_required_numbers : List Str := ["graph", "state", "wanted", "candidate", "known", "unbounded", "pinned", "node", "low", "high", "branches", "other", "least", "greatest"]
theorem sc_required_numbers : FnScope ["graph", "state", "wanted", "candidate", "known", "unbounded", "pinned", "node", "low", "high", "branches", "other", "least", "greatest"] ["graph", "state", "wanted", "candidate", "known", "unbounded", "pinned"] (defScope s_required_numbers) := ⟨rfl, rfl, rfl, by decide +kernel, rfl, by decide +kernel, by decide +kernel⟩
abbrev s_is_branch : Stmt := top 37
theorem sc_is_branch : FnScope ["graph", "state", "wanted", "candidate", "known", "unbounded", "pinned", "node", "low", "high", "branches", "numbers", "inner_unbounded", "number", "branch", "inner_known"] ["graph", "state", "wanted", "candidate", "known", "unbounded", "pinned"] (defScope s_is_branch) := ⟨rfl, rfl, rfl, by decide +kernel, rfl, by decide +kernel, by decide +kernel⟩
abbrev s_is_refutation : Stmt := top 38
theorem sc_is_refutation : FnScope ["graph", "state", "wanted", "candidate", "pinned"] ["graph", "state", "wanted", "candidate", "pinned"] (defScope s_is_refutation) := ⟨rfl, rfl, rfl, by decide +kernel, rfl, by decide +kernel, by decide +kernel⟩
abbrev s__law_box : Stmt := top 40
abbrev nN__law_box : List Str := ["_law_script", "_law_cell"]
theorem sc__law_box : FnScope ["_law_script", "_law_cell"] ["_law_script"] (defScope s__law_box) := ⟨rfl, rfl, rfl, by decide +kernel, rfl, by decide +kernel, by decide +kernel⟩
abbrev s__law_draw : Stmt := top 41
theorem sc__law_draw : FnScope ["_law_source", "_law_count", "_law_cell", "_law_found"] ["_law_source", "_law_count"] (defScope s__law_draw) := ⟨rfl, rfl, rfl, by decide +kernel, rfl, by decide +kernel, by decide +kernel⟩
abbrev s__law_stem : Stmt := top 42
abbrev nN__law_stem : List Str := ["_law_source", "_law_k"]
theorem sc__law_stem : FnScope ["_law_source", "_law_k"] ["_law_source"] (defScope s__law_stem) := ⟨rfl, rfl, rfl, by decide +kernel, rfl, by decide +kernel, by decide +kernel⟩
abbrev s__law_random_names : Stmt := top 43
theorem sc__law_random_names : FnScope ["_law_source", "_law_count", "_law_front", "_law_alike", "_law_shift", "_law_step", "_law_stem_here", "_law_words", "_law_k", "_law_letter"] ["_law_source", "_law_count"] (defScope s__law_random_names) := ⟨rfl, rfl, rfl, by decide +kernel, rfl, by decide +kernel, by decide +kernel⟩
abbrev s__law_random_problem : Stmt := top 44
abbrev nN__law_random_problem : List Str := ["_law_source", "_law_most", "_law_values", "_law_pairs", "_law_k", "_law_value", "_law_direction", "_law_near", "_law_density", "_law_words", "_law_edges", "_law_one", "_law_other", "_law_state", "_law_share", "_law_pins", "_law_word"]
theorem sc__law_random_problem : FnScope ["_law_source", "_law_most", "_law_values", "_law_pairs", "_law_k", "_law_value", "_law_direction", "_law_near", "_law_density", "_law_words", "_law_edges", "_law_one", "_law_other", "_law_state", "_law_share", "_law_pins", "_law_word"] ["_law_source", "_law_most"] (defScope s__law_random_problem) := ⟨rfl, rfl, rfl, by decide +kernel, rfl, by decide +kernel, by decide +kernel⟩
abbrev s__law_random_wanted : Stmt := top 45
theorem sc__law_random_wanted : FnScope ["_law_source", "_law_graph", "_law_state", "_law_wanted", "_law_k", "_law_node"] ["_law_source", "_law_graph", "_law_state"] (defScope s__law_random_wanted) := ⟨rfl, rfl, rfl, by decide +kernel, rfl, by decide +kernel, by decide +kernel⟩
abbrev s__law_slope_of : Stmt := top 46
theorem sc__law_slope_of : FnScope ["_law_state", "_law_one", "_law_other"] ["_law_state", "_law_one", "_law_other"] (defScope s__law_slope_of) := ⟨rfl, rfl, rfl, by decide +kernel, rfl, by decide +kernel, by decide +kernel⟩
abbrev s__law_is_path : Stmt := top 47
theorem sc__law_is_path : FnScope ["_law_graph", "_law_path", "_law_at"] ["_law_graph", "_law_path"] (defScope s__law_is_path) := ⟨rfl, rfl, rfl, by decide +kernel, rfl, by decide +kernel, by decide +kernel⟩
abbrev s__law_steps : Stmt := top 48
abbrev nN__law_steps : List Str := ["_law_state", "_law_path", "_law_direction", "_law_at"]
theorem sc__law_steps : FnScope ["_law_state", "_law_path", "_law_direction", "_law_at"] ["_law_state", "_law_path", "_law_direction"] (defScope s__law_steps) := ⟨rfl, rfl, rfl, by decide +kernel, rfl, by decide +kernel, by decide +kernel⟩
abbrev s__law_is_certificate_path : Stmt := top 49
theorem sc__law_is_certificate_path : FnScope ["_law_graph", "_law_state", "_law_path", "_law_node", "_law_direction", "_law_pins"] ["_law_graph", "_law_state", "_law_path", "_law_node", "_law_direction", "_law_pins"] (defScope s__law_is_certificate_path) := ⟨rfl, rfl, rfl, by decide +kernel, rfl, by decide +kernel, by decide +kernel⟩
abbrev s__law_is_frozen_here : Stmt := top 50
theorem sc__law_is_frozen_here : FnScope ["_law_graph", "_law_state", "_law_node", "_law_certificate", "_law_pins"] ["_law_graph", "_law_state", "_law_node", "_law_certificate", "_law_pins"] (defScope s__law_is_frozen_here) := ⟨rfl, rfl, rfl, by decide +kernel, rfl, by decide +kernel, by decide +kernel⟩
abbrev s__law_component_of : Stmt := top 51
abbrev nN__law_component_of : List Str := ["_law_graph", "_law_node", "_law_found", "_law_at", "_law_current", "_law_one"]
theorem sc__law_component_of : FnScope ["_law_graph", "_law_node", "_law_found", "_law_at", "_law_current", "_law_one"] ["_law_graph", "_law_node"] (defScope s__law_component_of) := ⟨rfl, rfl, rfl, by decide +kernel, rfl, by decide +kernel, by decide +kernel⟩
abbrev s__law_bound : Stmt := top 52
abbrev nN__law_bound : List Str := ["_law_graph", "_law_state", "_law_candidate", "_law_node", "_law_known", "_law_free", "_law_pins", "_law_direction", "_law_path", "_law_count", "_law_one"]
theorem sc__law_bound : FnScope ["_law_graph", "_law_state", "_law_candidate", "_law_node", "_law_known", "_law_free", "_law_pins", "_law_direction", "_law_path", "_law_count", "_law_one"] ["_law_graph", "_law_state", "_law_candidate", "_law_node", "_law_known", "_law_free", "_law_pins", "_law_direction"] (defScope s__law_bound) := ⟨rfl, rfl, rfl, by decide +kernel, rfl, by decide +kernel, by decide +kernel⟩
abbrev s__law_is_branch : Stmt := top 53
abbrev nN__law_is_branch : List Str := ["_law_graph", "_law_state", "_law_wanted", "_law_branch", "_law_known", "_law_free", "_law_pins", "_law_node", "_law_least", "_law_most", "_law_unbounded", "_law_one", "_law_numbers", "_law_k", "_law_more"]
theorem sc__law_is_branch : FnScope ["_law_graph", "_law_state", "_law_wanted", "_law_branch", "_law_known", "_law_free", "_law_pins", "_law_node", "_law_least", "_law_most", "_law_unbounded", "_law_one", "_law_numbers", "_law_k", "_law_more"] ["_law_graph", "_law_state", "_law_wanted", "_law_branch", "_law_known", "_law_free", "_law_pins"] (defScope s__law_is_branch) := ⟨rfl, rfl, rfl, by decide +kernel, rfl, by decide +kernel, by decide +kernel⟩
abbrev s__law_random_bound : Stmt := top 54
abbrev nN__law_random_bound : List Str := ["_law_source", "_law_graph", "_law_state", "_law_node", "_law_known", "_law_pins", "_law_path", "_law_k", "_law_near", "_law_one", "_law_first"]
theorem sc__law_random_bound : FnScope ["_law_source", "_law_graph", "_law_state", "_law_node", "_law_known", "_law_pins", "_law_path", "_law_k", "_law_near", "_law_one", "_law_first"] ["_law_source", "_law_graph", "_law_state", "_law_node", "_law_known", "_law_pins"] (defScope s__law_random_bound) := ⟨rfl, rfl, rfl, by decide +kernel, rfl, by decide +kernel, by decide +kernel⟩
abbrev s__law_random_branch : Stmt := top 55
abbrev nN__law_random_branch : List Str := ["_law_source", "_law_graph", "_law_state", "_law_wanted", "_law_known", "_law_pins", "_law_remaining", "_law_node", "_law_low", "_law_high", "_law_least", "_law_most", "_law_branches", "_law_k", "_law_more"]
theorem sc__law_random_branch : FnScope ["_law_source", "_law_graph", "_law_state", "_law_wanted", "_law_known", "_law_pins", "_law_remaining", "_law_node", "_law_low", "_law_high", "_law_least", "_law_most", "_law_branches", "_law_k", "_law_more"] ["_law_source", "_law_graph", "_law_state", "_law_wanted", "_law_known", "_law_pins"] (defScope s__law_random_branch) := ⟨rfl, rfl, rfl, by decide +kernel, rfl, by decide +kernel, by decide +kernel⟩
abbrev s__law_long_paths_hold : Stmt := top 56
theorem sc__law_long_paths_hold : FnScope ["_law_graph", "_law_state", "_law_certificate", "_law_results", "_law_rounds", "_law_low", "_law_tree"] [] (defScope s__law_long_paths_hold) := ⟨rfl, rfl, rfl, by decide +kernel, rfl, by decide +kernel, by decide +kernel⟩
abbrev s_law : Stmt := top 57
theorem sc_law : FnScope ["_law_script", "_law_source", "_law_graph", "_law_state", "_law_pins", "_law_wanted", "_law_tree", "_law_saved", "_law_expected", "_law_wrong"] ["_law_script"] (defScope s_law) := ⟨rfl, rfl, rfl, by decide +kernel, rfl, by decide +kernel, by decide +kernel⟩
end Law


section
open PySem PySem.Spec PyProof.Rows L2 U
local macro_rules | `(tactic| wtm_at "rd1") => `(tactic| first
  | with_reducible refine rd_seq ?_
  | ((with_reducible refine rd_var (v := ?vv) ?hv ?_); (case hv => exact rfl))
  | with_reducible refine rd_c ?_
  | with_reducible refine rd_cons ?_
  | with_reducible refine rd_nil ?_
  | with_reducible refine rd_op ?_
  | with_reducible refine rd_asg ?_
  | with_reducible refine rd_name ?_
  | with_reducible refine rd_c1 ?_
  | with_reducible refine rd_cb ?_
  | with_reducible refine rd_test ?_
  | with_reducible refine rd_B ?_
  | with_reducible refine rd_bl ?_
  | with_reducible refine rd_if ?_
  | with_reducible refine rd_ret ?_
  | with_reducible refine rd_drop ?_
  | with_reducible refine rd_next ?_
  | with_reducible refine rd_addI ?_
  | with_reducible refine rd_ltI ?_
  | with_reducible refine rd_eqI ?_
  | with_reducible refine rd_neI ?_
  | with_reducible refine rd_eqS ?_
  | with_reducible refine rd_neS ?_
  | with_reducible refine rd_gtI ?_
  | with_reducible refine rd_geI ?_
  | with_reducible refine rd_leI ?_
  | with_reducible refine rd_ltS ?_
  | with_reducible refine rd_subI ?_
  | ((with_reducible refine rd_modI ?hc ?_); (case hc => first | decide | omega))
  | ((with_reducible refine rd_mulI ?hc ?_); (case hc => first | exact mul_bI | exact .inl (.inr (by decide)) | exact .inl (.inl (by decide)) | exact .inl (.inr (by omega)) | exact .inl (.inl (by omega))))
  | ((with_reducible refine rd_divI ?hc ?_); (case hc => first | decide | omega))
  | ((with_reducible refine rd_powI ?hc ?_); (case hc => exact ⟨by decide, by decide, by decide⟩))
  | with_reducible refine rd_lst ?_
  | with_reducible refine rd_tup ?_
  | ((with_reducible refine rd_sz ?hv ?_); (case hv => exact rfl))
  | with_reducible refine rd_and ?_
  | with_reducible refine rd_or ?_
  | with_reducible refine rd_not ?_
  | with_reducible refine rd_andV ?_
  | with_reducible refine rd_orV ?_
  | with_reducible refine rd_notV ?_
  | with_reducible refine rd_ifE ?_
  | with_reducible refine rd_T ?_
  | with_reducible refine rd_F ?_
  | with_reducible refine rd_chain ?_
  | with_reducible refine rd_is ?_
  | with_reducible refine rd_isNot ?_
  | with_reducible refine rd_absI ?_
  | with_reducible refine rd_maxI ?_
  | with_reducible refine rd_minI ?_
  | with_reducible refine rd_intI ?_
  | with_reducible refine rd_intB ?_
  | with_reducible refine rd_sub ?_
  | with_reducible refine rd_sl ?_
  | with_reducible refine rd_noPart ?_
  | with_reducible refine rd_part ?_
  | with_reducible refine rd_exI ?_
  | with_reducible refine rd_bm ?_
  | with_reducible refine rd_bm0 ?_
  | with_reducible refine rd_un ?_
  | with_reducible refine rd_neg ?_
  | with_reducible refine rd_c2 ?_
  | with_reducible refine rd_retN ?_
  | with_reducible refine rd_break ?_
  | with_reducible refine rd_cont ?_
  | with_reducible refine rd_for ?_
  | with_reducible refine rd_rng1 ?_
  | with_reducible refine rd_rng2 ?_
  | with_reducible refine rd_iList ?_
  | with_reducible refine rd_iTup ?_
  | with_reducible refine rd_iEnum ?_
  | ((with_reducible refine rd_forR ?h0 ?h1 ?_); (case h0 => omega); (case h1 => omega))
  | with_reducible refine rd_lc ?_
  | with_reducible refine rd_gcons ?_
  | with_reducible refine rd_gnil ?_
  | with_reducible refine rd_dget ?_
  | with_reducible refine rd_dput ?_
  | with_reducible refine rd_dnew ?_
  | with_reducible refine rd_dc ?_
  | with_reducible refine rd_iItems ?_
  | with_reducible refine rd_iKeys ?_
  | with_reducible refine rd_din ?_
  | with_reducible refine rd_lc2 ?_
  | with_reducible refine rd_cd ?_
  | with_reducible refine rd_par ?_
  | with_reducible refine rd_two ?_
  | with_reducible refine rd_reprB ?_
  | with_reducible refine rd_ck ?_
  | ((with_reducible refine rd_len ?hl ?_); (case hl => exact rfl))
  | with_reducible refine rd_nT ?_
  | with_reducible refine rd_nF ?_
  | with_reducible refine rd_dnin ?_
  | with_reducible refine rd_isB ?_
  | with_reducible refine rd_isNotB ?_
  | with_reducible refine rd_daug ?_
  | with_reducible refine rd_yesT ?_
  | ((with_reducible refine rd_wp ?hw ?_); (case hw => exact rfl)))
local macro_rules | `(tactic| wtm_at "rd") => `(tactic| repeat wtm_at "rd1")
namespace Law
open PySem PySem.Spec PyProof.Rows L2 U

/-- the names of the world are the world's -/
structure Bt (mg : Str → Option Value) : Prop where
  len : mg "len" = none
  abs : mg "abs" = none
  max : mg "max" = none
  min : mg "min" = none
  sorted : mg "sorted" = none
  isinstance : mg "isinstance" = none
  int : mg "int" = none
  list : mg "list" = none
  tuple : mg "tuple" = none
  str : mg "str" = none
  range : mg "range" = none
  enumerate : mg "enumerate" = none
  dict : mg "dict" = none
  sum : mg "sum" = none
  all : mg "all" = none
  any : mg "any" = none
  repr : mg "repr" = none
  set : mg "set" = none
  zip : mg "zip" = none
  reversed : mg "reversed" = none
/-- a source of draws: the cells, how many are used, what is left of a great one, the seed -/
abbrev srcO (c : Addr) (pos big seed : Int) : HO := .lst [.ref c, .int pos, .int big, .int seed]
structure SrcOk (xs : List Int) (pos big seed : Int) : Prop where
  xs : ∀ x ∈ xs, 0 ≤ x
  pos : 0 ≤ pos
  big : 0 ≤ big
  s0 : 0 ≤ seed
  s1 : seed < 2147483647
def SrcAt (H : Hp) (p c : Addr) (xs : List Int) : Prop := ∃ pos big seed, H p = some (srcO c pos big seed) ∧ H c = some (.lst (xs.map V.int)) ∧ SrcOk xs pos big seed
def PoolAt (H : Hp) (p : Addr) : Prop := ∃ c xs, SrcAt H p c xs
theorem src_ne {xs : List Int} {c : Addr} {pos big seed : Int} : srcO c pos big seed ≠ .lst (xs.map V.int) := fun z => by
  match xs, HO.lst.inj z with
  | _ :: _, e => cases e
theorem PoolAt.ne {H : Hp} {p q : Addr} (h : PoolAt H p) (n : H q = none) : p ≠ q := by
  obtain ⟨c, xs, b, g, s, h, _⟩ := h
  exact ne_of_none h n
theorem PoolAt.isL {H : Hp} {p : Addr} (h : PoolAt H p) : ∃ ys, H p = some (.lst ys) := by
  obtain ⟨c, xs, b, g, s, h, _⟩ := h
  exact ⟨_, h⟩
theorem PoolAt.off {H : Hp} {p q : Addr} {xs : List Str} (h : PoolAt H p) (hq : H q = some (.lst (xs.map V.str))) : q ≠ p := by
  rintro rfl
  obtain ⟨c, ys, b, g, s, h, _⟩ := h
  rw [hq] at h
  have e := HO.lst.inj (Option.some.inj h)
  match xs, e with
  | _ :: _, e => cases e
/-- from H to H' all stays but the draws' source at p, which is one still; new things may have come -/
structure Go (p : Addr) (H H' : Hp) : Prop where
  but : But p H H'
  free : ∀ b, H' b = none → H b = none
  pool : PoolAt H' p
  cell : ∀ c pos big seed, H' p = some (srcO c pos big seed) → H c ≠ none ∧ ∃ pos big seed, H p = some (srcO c pos big seed)
theorem Go.refl {p : Addr} {H : Hp} (h : PoolAt H p) : Go p H H := ⟨But.refl, fun _ n => n, h, fun c pos big seed e => by
  obtain ⟨c', xs, b, g, s, h1, h2, _⟩ := h
  have e2 := Option.some.inj (e.symm.trans h1)
  have e3 := (List.cons.inj (HO.lst.inj e2)).1
  have e4 : c = c' := V.ref.inj e3
  subst e4
  exact ⟨(fun z => by rw [z] at h2; cases h2), _, _, _, e⟩⟩
theorem Go.trans {p : Addr} {H H1 H2 : Hp} (a : Go p H H1) (b : Go p H1 H2) : Go p H H2 := ⟨a.but.trans b.but, fun c n => a.free c (b.free c n), b.pool, fun c _ _ _ e => by
  obtain ⟨_, _, _, _, e2⟩ := b.cell c _ _ _ e
  exact a.cell c _ _ _ e2⟩
/-- an object that was not there at H is written -/
theorem Go.put {p q : Addr} {H H1 : Hp} {o : HO} (a : Go p H H1) (n : H q = none) (ne : p ≠ q) : Go p H (L2.upd H1 q o) := by
  obtain ⟨c, xs, b, g, s, h1, h2, ok⟩ := a.pool
  have nc : c ≠ q := fun z => (a.cell _ _ _ _ h1).1 (z ▸ n)
  exact ⟨fun b u h e => at_upd (ne_of_none e n) (a.but b u h e), fun c z => a.free c (new_old z), ⟨c, xs, b, g, s, at_upd ne h1, at_upd nc h2, ok⟩, fun c' _ _ _ e => a.cell c' _ _ _ ((upd_ne ne).symm.trans e)⟩
theorem Go.new {p q : Addr} {H H1 : Hp} {o : HO} (a : Go p H H1) (n : H1 q = none) : Go p H (L2.upd H1 q o) := a.put (a.free _ n) (a.pool.ne n)
theorem Go.at {p q : Addr} {H H1 : Hp} {o : HO} (a : Go p H H1) (h : H q = some o) (n : q ≠ p) : H1 q = some o := a.but q o n h
theorem Go.seqT {p a : Addr} {H H1 : Hp} {xs : List V} {K : PySem.W.Frag} (g : Go p H H1) (hp : PoolAt H p) (h : SqT K H a xs) : SqT K H1 a xs := g.but.seqT hp.isL h
theorem Go.of_same {p : Addr} {H H' : Hp} (hp : PoolAt H p) (s : Same H H') : Go p H H' := by
  obtain ⟨c, xs, b, g, sd, h1, h2, ok⟩ := hp
  refine ⟨But.of_same s, fun b n => new_of_same s n, ⟨c, xs, b, g, sd, s _ _ h1, s _ _ h2, ok⟩, fun c' _ _ _ e => ?_⟩
  have e2 := Option.some.inj (e.symm.trans (s _ _ h1))
  have e4 : c' = c := V.ref.inj (List.cons.inj (HO.lst.inj e2)).1
  subst e4
  exact ⟨(fun z => by rw [z] at h2; cases h2), _, _, _, h1⟩
theorem PoolAt.keep {p : Addr} {H H' : Hp} (h : PoolAt H p) (k : ∀ a xs, H a = some (.lst xs) → H' a = some (.lst xs)) : PoolAt H' p := by
  obtain ⟨c, xs, b, g, sd, h1, h2, ok⟩ := h
  exact ⟨c, xs, b, g, sd, k _ _ h1, k _ _ h2, ok⟩
def spBox (K : PySem.W.Frag) : Sp := fun vs H Q _ => ∃ (a : Addr) (ns : List Int), vs = [.ref a] ∧ SqL K H a (ns.map V.int) ∧ ns.length ≤ 63 ∧
  ∀ (p : Addr) (H' : Hp), Same H H' → H p = none → PoolAt H' p → Q (.ref p) H'
def spDraw : Sp := fun vs H Q _ => ∃ (p : Addr) (many : Int), vs = [.ref p, .int many] ∧ 0 < many ∧ many < 1000000 ∧ PoolAt H p ∧
  ∀ (r : Int) (H' : Hp), 0 ≤ r → r < many → Go p H H' → Q (.int r) H'
/-- _law_draw, as it is used -/
theorem use_draw {H : Hp} {p : Addr} {many : Int} {Q : VK} {E : XK} (h : PoolAt H p) (m0 : 0 < many) (m1 : many < 1000000)
    (k : ∀ (r : Int) (H' : Hp), 0 ≤ r → r < many → Go p H H' → Q (.int r) H') : spDraw [.ref p, .int many] H Q E := ⟨p, many, rfl, m0, m1, h, k⟩
section
variable {P : Program} {w : World} {K : PySem.W.Frag} {mg : Str → Option Value} {base : Heap}
theorem ok_box {f : Addr} {fd : FuncData} (F : Fun K "_law_box" "_law_box" s__law_box f fd) (B : Bt mg) : FnG P w K mg base CX0 1 f fd ["_law_script"] (spBox K) := by
  refine fnG0 F sc__law_box (fun vs H Q E h => ?_) (fun cdv A outer s H vs Q E hr h => ?_)
  · obtain ⟨a, ns, rfl, _⟩ := h
    rfl
  · obtain ⟨a, ns, rfl, hs, hl, q⟩ := h
    have nd := sc__law_box.nd
    refine ⟨_, (pss_one (ps_ret (pe_lst (pa_cons (pe_lc (own := [("_law_cell", 1)]) rfl nd (ki_list K rfl (pe_slice (kSl K rfl) (pv 0) po_none (po_some pe_int))) (blkOk_by (own := [("_law_cell", 1)]) (N := nN__law_box) (sc := defScope s__law_box) (by decide +kernel)) (fun _ _ _ _ _ => (pg_name (i := 1) nd rfl (by first | exact Or.inl rfl | exact Or.inr rfl))) (fun _ _ _ _ _ => pts_nil) (fun _ _ _ _ _ => (pe_callB cAbs (by rfl) B.abs bb_abs (pa_cons (pv 1) pa_nil)))) (pa_cons pe_int (pa_cons pe_int (pa_cons pe_int pa_nil))))))), ?_⟩
    wtm_at "rd"
    refine rd_slL hs ?_
    intro t ft
    have ht := @upd_same H t (.lst (cutV (ns.map V.int) none (some 63)))
    have s1 := Same.new (o := .lst (cutV (ns.map V.int) none (some 63))) ft
    have e63 : cutV (ns.map V.int) none (some 63) = ns.map V.int := by
      unfold cutV HT.sIx
      simp only [Nat.sub_zero, List.drop_zero]
      rw [if_neg (by decide)]
      have : (ns.map V.int).length = ns.length := List.length_map _
      rw [List.take_of_length_le]
      rw [Nat.min_def]
      split <;> omega
    rw [e63] at ht s1 ⊢
    generalize upd H t (.lst (ns.map V.int)) = H1 at ht s1
    wtm_at "rd"
    refine rd_forL (SqL.of ht) ?_
    intro D fD
    refine lcL (K := K) (xs := ns.map V.int) (fun i H' => Same H1 H' ∧ H' D = some (.lst (((ns.take i).map fun z => (z.natAbs : Int)).map V.int))) ⟨Same.new fD, upd_same⟩ ?_ ?_ ?_
    · rintro i H' hi ⟨s, _⟩
      exact SqL.of (s _ _ ht)
    · rintro i y H' hy ⟨s, hD⟩
      obtain ⟨hi, rfl⟩ := map_at hy
      wtm_at "rd"
      refine rd_acc hD (by rw [List.length_map, List.length_map, List.length_take]; omega) ?_
      refine ⟨same_put s fD, ?_⟩
      rw [upd_same, show ns.take (i + 1) = ns.take i ++ [ns[i]] from by rw [List.take_succ, List.getElem?_eq_getElem hi]; rfl, List.map_append, List.map_append]
      rfl
    · rintro H2 ⟨s2, hD⟩
      rw [List.length_map, List.take_length] at hD
      wtm_at "rd"
      intro p fp
      have k := Same.new (o := srcO D 0 0 7) fp
      refine q p _ ((s1.trans s2).trans k) (new_of_same (s1.trans s2) fp) ⟨D, _, 0, 0, 7, upd_same, k _ _ hD, ⟨fun x hx => ?_, by decide, by decide, by decide, by decide⟩⟩
      obtain ⟨z, _, rfl⟩ := List.mem_map.mp hx
      omega
theorem ok_draw {f : Addr} {fd : FuncData} (F : Fun K "_law_draw" "_law_draw" s__law_draw f fd) (B : Bt mg) : FnG P w K mg base CX0 1 f fd ["_law_source", "_law_count"] spDraw := by
  refine fnG0 F sc__law_draw (fun vs H Q E h => ?_) (fun cdv A outer s H vs Q E hr h => ?_)
  · obtain ⟨p, many, rfl, _⟩ := h
    rfl
  · obtain ⟨p, many, rfl, m0, m1, hp, q⟩ := h
    have nd := sc__law_draw.nd
    have g0 := Go.refl hp
    obtain ⟨c, xs, pos, big, seed, h1, h2, ok⟩ := hp
    have ncp : c ≠ p := fun z => by
      subst z
      exact src_ne (Option.some.inj (h1.symm.trans h2))
    have set : ∀ {H1 : Hp} {pos' big' seed' pos2 big2 seed2 : Int}, Go p H H1 → H1 p = some (srcO c pos' big' seed') → H1 c = some (.lst (xs.map V.int)) → SrcOk xs pos2 big2 seed2 → Go p H (upd H1 p (srcO c pos2 big2 seed2)) ∧ upd H1 p (srcO c pos2 big2 seed2) p = some (srcO c pos2 big2 seed2) ∧ upd H1 p (srcO c pos2 big2 seed2) c = some (.lst (xs.map V.int)) := by
      intro H1 pos' big' seed' pos2 big2 seed2 g e1 e2 ok2
      refine ⟨⟨g.but.trans But.upd, fun b z => g.free b (new_old z), ⟨c, xs, _, _, _, upd_same, at_upd ncp e2, ok2⟩, fun c' _ _ _ e => ?_⟩, upd_same, at_upd ncp e2⟩
      rw [upd_same] at e
      have e4 : c = c' := V.ref.inj (List.cons.inj (HO.lst.inj (Option.some.inj e))).1
      subst e4
      exact g.cell c _ _ _ e1
    refine ⟨_, (C8.pss_cut (ps_if (PW.pt (pw_and (pt_cmpR (kEq K rfl hr.u64) (pe_ix (kIx K rfl) (pv 0) pe_int (fun _ _ => rfl)) pe_int (nomark _)) (pw_and1 (pt_cmpR uLt (pe_ix (kIx K rfl) (pv 0) pe_int (fun _ _ => rfl)) (pe_callB (kLen K rfl) (by rfl) B.len bb_len (pa_cons (pe_ix (kIx K rfl) (pv 0) pe_int (fun _ _ => rfl)) pa_nil)) (nomark _))))) (pss_cons (ps_set (i := 2) nd rfl (by first | exact Or.inl rfl | exact Or.inr rfl) (pe_ix (kIx K rfl) (pe_ix (kIx K rfl) (pv 0) pe_int (fun _ _ => rfl)) (pe_ix (kIx K rfl) (pv 0) pe_int (fun _ _ => rfl)) (fun _ _ => rfl)))
  (pss_cons (ps_asg (pe_op (kAdd K rfl) (pe_ix (kIx K rfl) (pv 0) pe_int (fun _ _ => rfl)) pe_int) (pg_sub (pv 0) pe_int set_list))
  (pss_one (ps_if (pt_cmpR uGe (pv 2) (pe_op uPow pe_int pe_int) (nomark _)) (pss_one (ps_asg (pv 2) (pg_sub (pv 0) pe_int set_list))) (pss_one (ps_asg (pe_op uMod (pe_op (kAdd K rfl) (pe_op uMul (pe_ix (kIx K rfl) (pv 0) pe_int (fun _ _ => rfl)) pe_int) (pv 2)) pe_int) (pg_sub (pv 0) pe_int set_list))))))) pss_nil)
  (pss_cons (ps_if (pt_cmpR uGt (pe_ix (kIx K rfl) (pv 0) pe_int (fun _ _ => rfl)) pe_int (nomark _)) (pss_cons (ps_set (i := 3) nd rfl (by first | exact Or.inl rfl | exact Or.inr rfl) (pe_op uMod (pe_ix (kIx K rfl) (pv 0) pe_int (fun _ _ => rfl)) (pv 1)))
  (pss_cons (ps_asg (pe_op uDiv (pe_ix (kIx K rfl) (pv 0) pe_int (fun _ _ => rfl)) (pv 1)) (pg_sub (pv 0) pe_int set_list))
  (pss_one (ps_ret (pv 3))))) pss_nil)
  (pss_cons (ps_asg (pe_op uMod (pe_op (kAdd K rfl) (pe_op uMul (pe_ix (kIx K rfl) (pv 0) pe_int (fun _ _ => rfl)) pe_int) pe_int) pe_int) (pg_sub (pv 0) pe_int set_list))
  (pss_one (ps_ret (pe_op uMod (pe_op uMod (pe_op uMul (pe_ix (kIx K rfl) (pv 0) pe_int (fun _ _ => rfl)) pe_int) pe_int) (pv 1))))))), ?_⟩
    refine ⟨fun σ' H' => ∃ (u2 u3 : Option V) (pos big seed : Int), σ' = [some (.ref p), some (.int many), u2, u3] ∧ Go p H H' ∧ H' p = some (srcO c pos big seed) ∧ H' c = some (.lst (xs.map V.int)) ∧ SrcOk xs pos big seed, ?_, ?_⟩
    · wtm_at "rd"
      refine rd_ixL (SqL.of h1) rfl ?_
      wtm_at "rd"
      refine rd_split (fun c1 => ?_) (fun c1 => ?_)
      · wtm_at "rd"
        refine rd_ixL (SqL.of h1) rfl ?_
        wtm_at "rd"
        refine rd_ixL (SqL.of h1) rfl ?_
        wtm_at "rd"
        refine rd_lenL (SqL.of h2) ?_
        rw [List.length_map]
        wtm_at "rd"
        refine rd_split (fun c2 => ?_) (fun c2 => ?_)
        · obtain ⟨k, rfl⟩ : ∃ k : Nat, pos = (k : Int) := ⟨pos.toNat, by have := ok.pos; omega⟩
          have hk : k < xs.length := by omega
          wtm_at "rd"
          refine rd_ixL (SqL.of h1) rfl ?_
          wtm_at "rd"
          refine rd_ixL (SqL.of h1) rfl ?_
          refine rd_ixL (SqL.of h2) (v := .int xs[k]) (atI_nat (by rw [List.getElem?_map, List.getElem?_eq_getElem hk]; rfl)) ?_
          have x0 := ok.xs _ (List.getElem_mem hk)
          generalize xs[k] = x at *
          wtm_at "rd"
          refine rd_ixL (SqL.of h1) rfl ?_
          wtm_at "rd"
          refine rd_setL h1 rfl ?_
          obtain ⟨g1, e1, e2⟩ := set (pos2 := (k : Int) + 1) (big2 := big) (seed2 := seed) g0 h1 h2 ⟨ok.xs, by omega, ok.big, ok.s0, ok.s1⟩
          wtm_at "rd"
          refine rd_split (fun c3 => ?_) (fun c3 => ?_)
          · wtm_at "rd"
            refine rd_setL e1 rfl ?_
            obtain ⟨g3, e3, e4⟩ := set (pos2 := (k : Int) + 1) (big2 := x) (seed2 := seed) g1 e1 e2 ⟨ok.xs, by omega, x0, ok.s0, ok.s1⟩
            exact ⟨_, _, _, _, _, rfl, g3, e3, e4, ⟨ok.xs, by omega, x0, ok.s0, ok.s1⟩⟩
          · wtm_at "rd"
            refine rd_ixL (SqL.of e1) rfl ?_
            wtm_at "rd"
            refine rd_setL e1 rfl ?_
            obtain ⟨g3, e3, e4⟩ := set (pos2 := (k : Int) + 1) (big2 := big) (seed2 := (seed * 48271 + x) % 2147483647) g1 e1 e2 ⟨ok.xs, by omega, ok.big, by omega, by omega⟩
            exact ⟨_, _, _, _, _, rfl, g3, e3, e4, ⟨ok.xs, by omega, ok.big, by omega, by omega⟩⟩
        · wtm_at "rd"
          exact ⟨_, _, _, _, _, rfl, g0, h1, h2, ok⟩
      · wtm_at "rd"
        exact ⟨_, _, _, _, _, rfl, g0, h1, h2, ok⟩
    · rintro σ' H1 ⟨u2, u3, pos, big, seed, rfl, g1, e1, e2, ok⟩
      wtm_at "rd"
      refine rd_ixL (SqL.of e1) rfl ?_
      wtm_at "rd"
      refine rd_split (fun c1 => ?_) (fun c1 => ?_)
      · wtm_at "rd"
        refine rd_ixL (SqL.of e1) rfl ?_
        wtm_at "rd"
        refine rd_ixL (SqL.of e1) rfl ?_
        wtm_at "rd"
        refine rd_setL e1 rfl ?_
        wtm_at "rd"
        exact q _ _ (Int.emod_nonneg _ (by omega)) (Int.emod_lt_of_pos _ m0) (set g1 e1 e2 ⟨ok.xs, ok.pos, Int.ediv_nonneg ok.big (by omega), ok.s0, ok.s1⟩).1
      · wtm_at "rd"
        refine rd_ixL (SqL.of e1) rfl ?_
        wtm_at "rd"
        refine rd_setL e1 rfl ?_
        obtain ⟨g3, e3, e4⟩ := set (pos2 := pos) (big2 := big) (seed2 := (seed * 48271 + 11) % 2147483647) g1 e1 e2 ⟨ok.xs, ok.pos, ok.big, by omega, by omega⟩
        wtm_at "rd"
        refine rd_ixL (SqL.of e3) rfl ?_
        wtm_at "rd"
        exact q _ _ (Int.emod_nonneg _ (by omega)) (Int.emod_lt_of_pos _ m0) g3
end
end Law


/-! the names of a random problem -/
namespace U
open PySem PySem.Spec PyProof.Rows L2
def IsTail (s : Str) : Prop := s.length ≤ 7 ∧ ∀ c ∈ s.cps.toList, 97 ≤ c ∧ c ≤ 122
open SX in theorem tail_join {cs : List Nat} (hl : cs.length ≤ 7) (h : ∀ c ∈ cs, 97 ≤ c ∧ c ≤ 122) : IsTail (Txt.join ("" : Str) (cs.map fun c => ⟨#[c]⟩)) := by
  have e1 : (cs.map fun c => (⟨#[c]⟩ : Str)) = (cs.map fun c => [c]).map S := by
    rw [List.map_map]
    rfl
  have e2 : ∀ cs : List Nat, TL.joinL [] (cs.map fun c => [c]) = cs := by
    intro cs
    induction cs with
    | nil => rfl
    | cons a r ih =>
      cases r with
      | nil => rfl
      | cons b r => 
        show [a] ++ ([] ++ TL.joinL [] ((b :: r).map fun c => [c])) = _
        rw [ih]
        rfl
  have e3 : Txt.join ("" : Str) (cs.map fun c => ⟨#[c]⟩) = S cs := by
    rw [e1, show ("" : Str) = S [] from rfl, join_S, e2]
  rw [e3]
  exact ⟨by rw [S_len]; exact hl, by simpa [S] using h⟩
/-- a name of a random problem: the letter that tells it, in front or behind -/
def WdAt (front : Bool) (shift step : Int) (j : Nat) (w : Str) : Prop := ∃ t : Str, IsTail t ∧ w = if front = true then ⟨#[97 + (((j : Int) * step + shift) % 26).toNat]⟩ ++ t else t ++ ⟨#[97 + (((j : Int) * step + shift) % 26).toNat]⟩
theorem app_list {a b : Str} : (a ++ b).cps.toList = a.cps.toList ++ b.cps.toList := TL.tl_append a b
theorem WdAt.name {front : Bool} {shift step : Int} {j : Nat} {w : Str} (h : WdAt front shift step j w) : IsName w := by
  obtain ⟨t, ⟨tl, tc⟩, rfl⟩ := h
  have hc : 97 ≤ 97 + (((j : Int) * step + shift) % 26).toNat ∧ 97 + (((j : Int) * step + shift) % 26).toNat ≤ 122 := by omega
  generalize 97 + (((j : Int) * step + shift) % 26).toNat = c at hc
  have tl' : t.cps.toList.length ≤ 7 := by simpa [Str.length] using tl
  have len : ∀ z : Str, z.length = z.cps.toList.length := fun z => by simp [Str.length]
  split
  · refine ⟨?_, ?_, fun x hx => ?_⟩
    · rw [len, app_list, List.length_append]; show 1 ≤ 1 + _; omega
    · rw [len, app_list, List.length_append]; show 1 + _ ≤ 8; omega
    · rw [app_list] at hx
      rcases List.mem_append.mp hx with z | z
      · have : x = c := by simpa using z
        rw [this]; exact hc
      · exact tc x z
  · refine ⟨?_, ?_, fun x hx => ?_⟩
    · rw [len, app_list, List.length_append]; show 1 ≤ _ + 1; omega
    · rw [len, app_list, List.length_append]; show _ + 1 ≤ 8; omega
    · rw [app_list] at hx
      rcases List.mem_append.mp hx with z | z
      · exact tc x z
      · have : x = c := by simpa using z
        rw [this]; exact hc
theorem WdAt.inj {front : Bool} {shift step : Int} {j k : Nat} {w : Str} (hs : step = 7 ∨ step = 1 ∨ step = 3 ∨ step = 11) (hj : j < 26) (hk : k < 26) (a : WdAt front shift step j w) (b : WdAt front shift step k w) : j = k := by
  have core : 97 + (((j : Int) * step + shift) % 26).toNat = 97 + (((k : Int) * step + shift) % 26).toNat → j = k := by
    rcases hs with rfl | rfl | rfl | rfl <;> omega
  obtain ⟨t, _, e1⟩ := a
  obtain ⟨u, _, e2⟩ := b
  have e := e1.symm.trans e2
  apply core
  generalize 97 + (((j : Int) * step + shift) % 26).toNat = c at *
  generalize 97 + (((k : Int) * step + shift) % 26).toNat = d at *
  cases front with
  | true =>
    rw [if_pos rfl, if_pos rfl] at e
    have e3 := congrArg (fun z : Str => z.cps.toList) e
    simp only [app_list] at e3
    have : [c] ++ t.cps.toList = [d] ++ u.cps.toList := e3
    injection this
  | false =>
    rw [if_neg Bool.false_ne_true, if_neg Bool.false_ne_true] at e
    have e3 := congrArg (fun z : Str => z.cps.toList) e
    simp only [app_list] at e3
    have e4 : t.cps.toList ++ [c] = u.cps.toList ++ [d] := e3
    have e5 := congrArg List.getLast? e4
    simp only [List.getLast?_append, List.getLast?_singleton, Option.some_or] at e5
    exact Option.some.inj e5
/-- the words so far -/
structure Wds (front : Bool) (shift step : Int) (ws : List Str) : Prop where
  at_ : ∀ j (h : j < ws.length), WdAt front shift step j ws[j]
theorem Wds.nil {front : Bool} {shift step : Int} : Wds front shift step [] := ⟨fun j h => absurd h (Nat.not_lt_zero _)⟩
theorem Wds.snoc {front : Bool} {shift step : Int} {ws : List Str} {w : Str} (h : Wds front shift step ws) (k : WdAt front shift step ws.length w) : Wds front shift step (ws ++ [w]) := ⟨fun j hj => by
  rw [List.length_append, List.length_singleton] at hj
  by_cases z : j < ws.length
  · rw [List.getElem_append_left z]; exact h.at_ j z
  · obtain rfl : j = ws.length := by omega
    rw [List.getElem_append_right (Nat.le_refl _)]
    simpa using k⟩
theorem Wds.names {front : Bool} {shift step : Int} {ws : List Str} (h : Wds front shift step ws) (hs : step = 7 ∨ step = 1 ∨ step = 3 ∨ step = 11) (l : ws.length ≤ 26) : NamesU ws := by
  refine ⟨?_, fun y hy => ?_⟩
  · rw [List.nodup_iff_pairwise_ne, List.pairwise_iff_getElem]
    intro i j hi hj hij e
    have a := h.at_ i hi
    rw [e] at a
    have := WdAt.inj hs (by omega) (by omega) a (h.at_ j hj)
    omega
  · obtain ⟨j, hj, rfl⟩ := List.mem_iff_getElem.mp hy
    exact (h.at_ j hj).name
end U
namespace Law
open PySem PySem.Spec PyProof.Rows L2 U


def spStem : Sp := fun vs H Q _ => ∃ p : Addr, vs = [.ref p] ∧ PoolAt H p ∧ ∀ (t : Str) (H' : Hp), Go p H H' → IsTail t → Q (.str t) H'
def spNamesB : Sp := fun vs H Q _ => ∃ (p : Addr) (many : Int), vs = [.ref p, .int many] ∧ 0 ≤ many ∧ many ≤ 26 ∧ PoolAt H p ∧
  ∀ (l : Addr) (ws : List Str) (H' : Hp), Go p H H' → H l = none → H' l = some (.lst (ws.map V.str)) → NamesU ws → ws.length = many.toNat → Q (.ref l) H'
abbrev spNames : Sp := spNamesB
theorem rd_join {K : PySem.W.Frag} {H : Hp} {Q : VK} {p : Addr} {cs : List Nat} (hp : SqL K H p ((cs.map fun c => (⟨#[c]⟩ : Str)).map V.str)) (hl : cs.length ≤ 100) (h : Q (.str (Txt.join ("" : Str) (cs.map fun c => ⟨#[c]⟩))) H) :
    ∃ a p', ∃ ys : List Str, V.str ("" : Str) = .str a ∧ [V.ref p] = [.ref p'] ∧ (SqL K H p' (ys.map V.str) ∨ SqT K H p' (ys.map V.str)) ∧ (ys.map (·.length)).sum + ys.length * a.length ≤ 16777216 ∧ Q (.str (Txt.join a ys)) H := by
  refine ⟨_, p, _, rfl, rfl, .inl hp, ?_, h⟩
  have e : ((cs.map fun c => (⟨#[c]⟩ : Str)).map (·.length)).sum = cs.length := by
    clear hp h hl
    induction cs with
    | nil => rfl
    | cons c r ih =>
      rw [List.map_cons, List.map_cons, List.sum_cons, ih, List.length_cons]
      show 1 + r.length = r.length + 1
      omega
  rw [e]
  show cs.length + (cs.map _).length * 0 ≤ 16777216
  omega
theorem rd_m1 {r : V → List V → Hp → VK → Prop} {to te : TE} {σ : L2.St} {H : Hp} {Q : VK} (h : to σ H fun x H1 => (∃ a, x = .str a) ∧ te σ H1 fun y H2 => r x [y] H2 Q) : tM1 r to te σ H Q := h
section
variable {P : Program} {w : World} {K : PySem.W.Frag} {mg : Str → Option Value} {base : Heap}
structure B2a (P : Program) (w : World) (K : PySem.W.Frag) (mg : Str → Option Value) (base : Heap) : Prop where
  _law_draw : Cal P w K mg base CX0 1 "_law_draw" spDraw
theorem ok_stem {f : Addr} {fd : FuncData} (F : Fun K "_law_stem" "_law_stem" s__law_stem f fd) (B : Bt mg) (C : B2a P w K mg base) : FnG P w K mg base CX0 2 f fd ["_law_source"] spStem := by
  refine fnG0 F sc__law_stem (fun vs H Q E h => ?_) (fun cdv A outer s H vs Q E hr h => ?_)
  · obtain ⟨p, rfl, _⟩ := h
    rfl
  · obtain ⟨p, rfl, hp, q⟩ := h
    have nd := sc__law_stem.nd
    refine ⟨_, (pss_one (ps_ret (pe_join pe_str (pe_lc (own := [("_law_k", 1)]) rfl nd (pi_range1 rfl B.range (pa_cons (pe_c C._law_draw hr (by decide) rfl (pa_cons (pv 0) (pa_cons pe_int pa_nil))) pa_nil)) (blkOk_by (own := [("_law_k", 1)]) (N := nN__law_stem) (sc := defScope s__law_stem) (by decide +kernel)) (fun _ _ _ _ _ => (pg_name (i := 1) nd rfl (by first | exact Or.inl rfl | exact Or.inr rfl))) (fun _ _ _ _ _ => pts_nil) (fun _ _ _ _ _ => (pe_ix (kIx K rfl) pe_str (pe_c C._law_draw hr (by decide) rfl (pa_cons (pv 0) (pa_cons pe_int pa_nil))) (fun _ _ => rfl))))))), ?_⟩
    wtm_at "rd"
    refine rd_m1 ?_
    wtm_at "rd"
    refine ⟨⟨_, rfl⟩, ?_⟩
    wtm_at "rd"
    refine use_draw hp (by decide) (by decide) fun r H1 r0 r1 g1 => ?_
    wtm_at "rd"
    intro D fD
    have npD := g1.pool.ne fD
    have fD0 := g1.free _ fD
    refine lcR (fun i H' => ∃ cs : List Nat, cs.length = i ∧ (∀ c ∈ cs, 97 ≤ c ∧ c ≤ 122) ∧ Go p H H' ∧ H' D = some (.lst ((cs.map fun c => (⟨#[c]⟩ : Str)).map V.str))) ⟨[], rfl, (fun c h => nomatch h), g1.new fD, upd_same⟩ ?_ ?_
    · rintro i H' hi ⟨cs, rfl, hc, g, hD⟩
      wtm_at "rd"
      refine use_draw g.pool (by decide) (by decide) fun d H2 d0 d1 g2 => ?_
      refine rd_ixS letters_len (letters_at d0 d1) ?_
      have hD2 := g2.at hD (Ne.symm npD)
      refine rd_acc hD2 (by rw [List.length_map, List.length_map]; omega) ?_
      refine ⟨cs ++ [97 + d.toNat], by rw [List.length_append]; rfl, fun c h => ?_, (g.trans g2).put fD0 npD, ?_⟩
      · rcases List.mem_append.mp h with h | h
        · exact hc c h
        · rw [List.mem_singleton] at h
          omega
      · rw [upd_same, List.map_append, List.map_append]
        rfl
    · rintro H' ⟨cs, hl, hc, g, hD⟩
      refine rd_join (SqL.of hD) (by omega) ?_
      wtm_at "rd"
      exact q _ _ g (tail_join (by omega) hc)
structure B2b (P : Program) (w : World) (K : PySem.W.Frag) (mg : Str → Option Value) (base : Heap) : Prop where
  _law_draw : Cal P w K mg base CX0 1 "_law_draw" spDraw
  _law_stem : Cal P w K mg base CX0 2 "_law_stem" spStem
theorem ok_namesB {f : Addr} {fd : FuncData} (F : Fun K "_law_random_names" "_law_random_names" s__law_random_names f fd) (B : Bt mg) (C : B2b P w K mg base) : FnG P w K mg base CX0 3 f fd ["_law_source", "_law_count"] spNamesB := by
  refine fnG0 F sc__law_random_names (fun vs H Q E h => ?_) (fun cdv A outer s H vs Q E hr h => ?_)
  · obtain ⟨p, many, rfl, _⟩ := h
    rfl
  · obtain ⟨p, many, rfl, m0, m1, hp, q⟩ := h
    have nd := sc__law_random_names.nd
    refine ⟨_, (pss_cons (ps_set (i := 2) nd rfl (by first | exact Or.inl rfl | exact Or.inr rfl) (pe_c C._law_draw hr (by decide) rfl (pa_cons (pv 0) (pa_cons pe_int pa_nil))))
  (pss_cons (ps_set (i := 3) nd rfl (by first | exact Or.inl rfl | exact Or.inr rfl) (pe_c C._law_draw hr (by decide) rfl (pa_cons (pv 0) (pa_cons pe_int pa_nil))))
  (pss_cons (ps_set (i := 4) nd rfl (by first | exact Or.inl rfl | exact Or.inr rfl) (pe_c C._law_draw hr (by decide) rfl (pa_cons (pv 0) (pa_cons pe_int pa_nil))))
  (pss_cons (ps_set (i := 5) nd rfl (by first | exact Or.inl rfl | exact Or.inr rfl) (pe_ix (kIx K rfl) (pe_lst (pa_cons pe_int (pa_cons pe_int (pa_cons pe_int (pa_cons pe_int pa_nil))))) (pe_c C._law_draw hr (by decide) rfl (pa_cons (pv 0) (pa_cons pe_int pa_nil))) (fun _ _ => rfl)))
  (pss_cons (ps_set (i := 6) nd rfl (by first | exact Or.inl rfl | exact Or.inr rfl) (pe_c C._law_stem hr (by decide) rfl (pa_cons (pv 0) pa_nil)))
  (pss_cons (ps_set (i := 7) nd rfl (by first | exact Or.inl rfl | exact Or.inr rfl) (pe_lst pa_nil))
  (pss_cons (ps_for PassesOwn.never rfl (pi_range1 rfl B.range (pa_cons (pv 1) pa_nil)) (pg_name (i := 8) nd rfl (by first | exact Or.inl rfl | exact Or.inr rfl)) (C8.pss_cut (ps_if (pt_cmpR uGt (pv 3) pe_int (nomark _)) (pss_one (ps_set (i := 6) nd rfl (by first | exact Or.inl rfl | exact Or.inr rfl) (pe_c C._law_stem hr (by decide) rfl (pa_cons (pv 0) pa_nil)))) pss_nil)
  (pss_cons (ps_set (i := 9) nd rfl (by first | exact Or.inl rfl | exact Or.inr rfl) (pe_ix (kIx K rfl) pe_str (pe_op uMod (pe_op (kAdd K rfl) (pe_op uMul (pv 8) (pv 5)) (pv 4)) pe_int) (fun _ _ => rfl)))
  (pss_one (ps_expr (pe_bm PySem.F.plainAttrs_list PySem.F.slot_list_append PySem.F.type_list_append mt_append (pv 7) (pa_cons (pe_ifExp (pt_cmpR (kEq K rfl hr.u64) (pv 2) pe_int (nomark _)) (pe_op (kAdd K rfl) (pv 9) (pv 6)) (pe_op (kAdd K rfl) (pv 6) (pv 9))) pa_nil)))))))
  (pss_one (ps_ret (pv 7)))))))))), ?_⟩
    wtm_at "rd"
    refine use_draw hp (by decide) (by decide) fun b H1 b0 b1 g1 => ?_
    wtm_at "rd"
    refine use_draw g1.pool (by decide) (by decide) fun alike H2 a0 a1 g => ?_
    have g2 := g1.trans g
    clear g g1
    wtm_at "rd"
    refine use_draw g2.pool (by decide) (by decide) fun shift H3 s0 s1 g => ?_
    have g3 := g2.trans g
    clear g g2
    wtm_at "rd"
    intro t ft
    have g4 := g3.new (o := .lst [.int 7, .int 1, .int 3, .int 11]) ft
    wtm_at "rd"
    refine use_draw g4.pool (by decide) (by decide) fun r H5 r0 r1 g => ?_
    have ht := g.at upd_same (g3.pool.ne ft).symm
    have g5 := g4.trans g
    clear g g4
    obtain ⟨step, hst, ist⟩ := pick4 (a := 7) (b := 1) (c := 3) (d := 11) r0 r1
    refine rd_ixL (SqL.of ht) hst ?_
    wtm_at "rd"
    refine ⟨p, rfl, g5.pool, fun t0 H6 g it0 => ?_⟩
    have g6 := g5.trans g
    clear g g5 g3 ht
    wtm_at "rd"
    intro l fl
    have npl := g6.pool.ne fl
    have fl0 := g6.free _ fl
    have g7 := g6.new (o := .lst []) fl
    wtm_at "rd"
    refine turnsR (fun i σ H' => ∃ (t : Str) (u8 u9 : Option V) (ws : List Str), σ = [some (.ref p), some (.int many), some (.int b), some (.int alike), some (.int shift), some (.int step), some (.str t), some (.ref l), u8, u9] ∧ IsTail t ∧ ws.length = i ∧ Wds (decide (b = 0)) shift step ws ∧ Go p H H' ∧ H' l = some (.lst (ws.map V.str))) ⟨t0, _, _, [], rfl, it0, rfl, Wds.nil, g7, upd_same⟩ ?_ ?_
    · rintro i σ H' hi ⟨t, u8, u9, ws, rfl, it, hwl, wd, g, hl⟩
      wtm_at "rd"
      refine ⟨fun σ' H2 => ∃ (t : Str) (u9 : Option V), σ' = [some (.ref p), some (.int many), some (.int b), some (.int alike), some (.int shift), some (.int step), some (.str t), some (.ref l), some (.int (0 + (i : Int))), u9] ∧ IsTail t ∧ Go p H H2 ∧ H2 l = some (.lst (ws.map V.str)), ?_, ?_⟩
      · wtm_at "rd"
        refine rd_split (fun c => ?_) (fun c => ?_)
        · wtm_at "rd"
          refine ⟨p, rfl, g.pool, fun t2 H2 g2 it2 => ?_⟩
          wtm_at "rd"
          exact ⟨t2, _, rfl, it2, g.trans g2, g2.at hl (Ne.symm npl)⟩
        · wtm_at "rd"
          exact ⟨t, _, rfl, it, g, hl⟩
      rintro σ' H2 ⟨t, u9, rfl, it, g, hl⟩
      have ir : 0 ≤ ((0 + (i : Int)) * step + shift) % 26 ∧ ((0 + (i : Int)) * step + shift) % 26 < 26 := by omega
      have e0 : 97 + (((0 + (i : Int)) * step + shift) % 26).toNat = 97 + (((ws.length : Int) * step + shift) % 26).toNat := by rw [hwl, Int.zero_add]
      wtm_at "rd"
      refine rd_ixS letters_len (letters_at ir.1 ir.2) ?_
      rw [e0]
      have tl := it.1
      have fin : ∀ z : Str, WdAt (decide (b = 0)) shift step ws.length z → Go p H (upd H2 l (.lst (ws.map V.str ++ [.str z]))) ∧ upd H2 l (.lst (ws.map V.str ++ [.str z])) l = some (.lst ((ws ++ [z]).map V.str)) ∧ Wds (decide (b = 0)) shift step (ws ++ [z]) := fun z hz =>
        ⟨g.put fl0 npl, by rw [upd_same, List.map_append]; rfl, wd.snoc hz⟩
      wtm_at "rd"
      refine rd_tyL hl ?_
      wtm_at "rd"
      generalize hch : (⟨#[97 + (((ws.length : Int) * step + shift) % 26).toNat]⟩ : Str) = ch
      have chl : ch.length = 1 := by rw [← hch]; rfl
      refine rd_split (fun c => ?_) (fun c => ?_)
      · wtm_at "rd"
        refine rd_addS (Nat.le_trans (Nat.add_le_add (Nat.le_of_eq chl) tl) (by decide)) ?_
        wtm_at "rd"
        refine rd_append hl (by rw [List.length_map]; omega) ?_
        obtain ⟨f1, f2, f3⟩ := fin (ch ++ t) ⟨t, it, by rw [decide_eq_true c, if_pos rfl, hch]⟩
        exact ⟨t, _, _, _, rfl, it, by rw [List.length_append, hwl]; rfl, f3, f1, f2⟩
      · wtm_at "rd"
        refine rd_addS (Nat.le_trans (Nat.add_le_add tl (Nat.le_of_eq chl)) (by decide)) ?_
        wtm_at "rd"
        refine rd_append hl (by rw [List.length_map]; omega) ?_
        obtain ⟨f1, f2, f3⟩ := fin (t ++ ch) ⟨t, it, by rw [decide_eq_false c, if_neg Bool.false_ne_true, hch]⟩
        exact ⟨t, _, _, _, rfl, it, by rw [List.length_append, hwl]; rfl, f3, f1, f2⟩
    · rintro σ H' ⟨t, u8, u9, ws, rfl, it, hwl, wd, g, hl⟩
      wtm_at "rd"
      exact q l ws H' g fl0 hl (wd.names ist (by omega)) hwl
end
end Law


namespace Law
open PySem PySem.Spec PyProof.Rows L2 U


/-- the same names in another order -/
def spShuf (K : PySem.W.Frag) : Sp := fun vs H Q _ => ∃ (p src : Addr) (xs : List Str), vs = [.ref p, .ref src] ∧ PoolAt H p ∧ H src = some (.lst (xs.map V.str)) ∧ (∀ x ∈ xs, PyData.strOk x = true) ∧ xs.length ≤ 1000 ∧
  ∀ (l : Addr) (ys : List Str) (H' : Hp), Go p H H' → H l = none → H' l = some (.lst (ys.map V.str)) → ys.Perm xs → Q (.ref l) H'
def spEdgeOf : Sp := fun vs H Q _ => ∃ x y : Str, vs = [.str x, .str y] ∧ ∀ t, H t = none → Q (.ref t) (upd H t (.tup (if sLt x y then [.str x, .str y] else [.str y, .str x])))
def spWants : Sp := fun vs H Q _ => ∃ (p : Addr) (kind a b m : Int), vs = [.ref p, .int kind, .int a, .int b, .int m] ∧ PoolAt H p ∧ 0 ≤ kind ∧ kind ≤ 10 ∧ ∀ (r : Bool) (H' : Hp), Go p H H' → Q (.bl r) H'
section
variable {P : Program} {w : World} {K : PySem.W.Frag} {mg : Str → Option Value} {base : Heap}
end
end Law


namespace Law
open PySem PySem.Spec PyProof.Rows L2 U


theorem PoolAt.offT {H : Hp} {p q : Addr} {xs : List V} (h : PoolAt H p) (hq : H q = some (.tup xs)) : q ≠ p := by
  rintro rfl
  obtain ⟨ys, h⟩ := h.isL
  rw [hq] at h
  cases h
theorem PoolAt.offD {H : Hp} {p q : Addr} {xs : List (Key × V)} (h : PoolAt H p) (hq : H q = some (.dK xs)) : q ≠ p := by
  rintro rfl
  obtain ⟨ys, h⟩ := h.isL
  rw [hq] at h
  cases h
/-- what stays while edges are found -/
structure GK (H : Hp) (p or st ed : Addr) (ord : List Str) (ws : List (Str × Int)) (es : List (Addr × Str × Str)) (H' : Hp) : Prop where
  go : Go p H H'
  ho : H' or = some (.lst (ord.map V.str))
  hs : H' st = some (.dK (kvsOf ws))
  he : H' ed = some (.lst (es.map fun x => V.ref x.1))
  pr : ∀ x ∈ es, H' x.1 = some (.tup [.str x.2.1, .str x.2.2])
theorem GK.new {H H' : Hp} {p or st ed t : Addr} {ord : List Str} {ws : List (Str × Int)} {es : List (Addr × Str × Str)} {o : HO} (h : GK H p or st ed ord ws es H') (n : H' t = none) : GK H p or st ed ord ws es (upd H' t o) :=
  ⟨h.go.new n, at_upd (ne_of_none h.ho n) h.ho, at_upd (ne_of_none h.hs n) h.hs, at_upd (ne_of_none h.he n) h.he, fun x hx => at_upd (ne_of_none (h.pr x hx) n) (h.pr x hx)⟩
theorem GK.step {H H' H2 : Hp} {p or st ed : Addr} {ord : List Str} {ws : List (Str × Int)} {es : List (Addr × Str × Str)} (h : GK H p or st ed ord ws es H') (no : or ≠ p) (ne : ed ≠ p) (g : Go p H' H2) : GK H p or st ed ord ws es H2 :=
  ⟨h.go.trans g, g.at h.ho no, g.at h.hs (h.go.pool.offD h.hs), g.at h.he ne, fun x hx => g.at (h.pr x hx) (h.go.pool.offT (h.pr x hx))⟩
theorem GK.add {H H' : Hp} {p or st ed t : Addr} {ord : List Str} {ws : List (Str × Int)} {es : List (Addr × Str × Str)} {e : Str × Str} (h : GK H p or st ed ord ws es H') (hf : H ed = none) (ne : ed ≠ p) (noe : or ≠ ed)
    (ht : H' t = some (.tup [.str e.1, .str e.2])) : GK H p or st ed ord ws (es ++ [(t, e)]) (upd H' ed (.lst ((es.map fun x => V.ref x.1) ++ [.ref t]))) := by
  have nt : ∀ {b : Addr} {xs : List V}, H' b = some (.tup xs) → b ≠ ed := fun {b xs} hb => ne_of hb h.he (by intro z; cases z)
  refine ⟨h.go.put hf (Ne.symm ne), at_upd noe h.ho, at_upd (ne_of h.hs h.he (by intro z; cases z)) h.hs, ?_, ?_⟩
  · rw [upd_same, List.map_append]
    rfl
  · intro x hx
    rcases List.mem_append.mp hx with hx | hx
    · exact at_upd (nt (h.pr x hx)) (h.pr x hx)
    · have : x = (t, e) := by simpa using hx
      subst this
      exact at_upd (nt ht) ht
section
variable {P : Program} {w : World} {K : PySem.W.Frag} {mg : Str → Option Value} {base : Heap}
structure C2 (P : Program) (w : World) (K : PySem.W.Frag) (mg : Str → Option Value) (base : Heap) : Prop where
  _law_draw : Cal P w K mg base CX0 1 "_law_draw" spDraw
  _law_draw_names : Cal P w K mg base CX0 2 "_law_draw_names" spNames
  _law_shuffle : Cal P w K mg base CX0 2 "_law_shuffle" (spShuf K)
  _law_edge_of : Cal P w K mg base CX0 1 "_law_edge_of" spEdgeOf
  _law_wants_edge : Cal P w K mg base CX0 2 "_law_wants_edge" spWants
end
end Law


namespace Law
open PySem PySem.Spec PyProof.Rows L2 U
/-- a graph and a state of it stand -/
structure GSt (H : Hp) (g n e st : Addr) (ns ord : List Str) (es : List (Addr × Str × Str)) (f : Str → Int) : Prop where
  gr : GrAt H g n e ns es
  ok : GrOk ns (es.map (·.2))
  pm : ord.Perm ns
  l2 : ns.length ≤ 100
  l3 : es.length ≤ 1000
  st : H st = some (.dK (kvF ord f))
  tri : ∀ x ∈ ns, 0 ≤ f x ∧ f x < 3
  pro : ∀ x ∈ es, f x.2.1 ≠ f x.2.2
section
variable {H H' : Hp} {g n e st p : Addr} {ns ord : List Str} {es : List (Addr × Str × Str)} {f : Str → Int}
theorem GSt.same (h : GSt H g n e st ns ord es f) (s : Same H H') : GSt H' g n e st ns ord es f := ⟨h.gr.same s, h.ok, h.pm, h.l2, h.l3, s _ _ h.st, h.tri, h.pro⟩
theorem GSt.go (h : GSt H g n e st ns ord es f) (hp : PoolAt H p) (b : Go p H H') : GSt H' g n e st ns ord es f := by
  obtain ⟨ys, hy⟩ := hp.isL
  exact ⟨h.gr.but hy b.but, h.ok, h.pm, h.l2, h.l3, b.but.dK hy h.st, h.tri, h.pro⟩
theorem GSt.nd (h : GSt H g n e st ns ord es f) : ns.Nodup := asc_nodup h.ok.names.asc
theorem GSt.inO (h : GSt H g n e st ns ord es f) : ∀ x ∈ ns, x ∈ ord := fun x hx => h.pm.mem_iff.mpr hx
theorem GSt.inE (h : GSt H g n e st ns ord es f) : ∀ x ∈ es, x.2.1 ∈ ns ∧ x.2.2 ∈ ns := fun x hx => h.ok.mem _ (List.mem_map_of_mem hx)
theorem GSt.sok (h : GSt H g n e st ns ord es f) : ∀ x ∈ ns, PyData.strOk x = true := fun x hx => (h.ok.names.ok x hx).sok
theorem GSt.eok (h : GSt H g n e st ns ord es f) : EsOk ns (es.map (·.2)) f := by
  refine ⟨fun x hx z => ?_, h.ok.mem, h.tri, fun x hx => ?_⟩
  · have := h.ok.lt x hx
    rw [z] at this
    exact sLt_irrefl _ this
  · obtain ⟨y, hy, rfl⟩ := List.mem_map.mp hx
    exact h.pro y hy
end
end Law


namespace Law
open PySem PySem.Spec PyProof.Rows L2 U


section
variable {P : Program} {w : World} {K : PySem.W.Frag} {mg : Str → Option Value} {base : Heap}
theorem nbrF_take {es : List (Str × Str)} {x : Str} {i : Nat} (h : i < es.length) : nbrF (es.take (i + 1)) x = nbrF (es.take i) x ++ ((if es[i].1 = x then [es[i].2] else []) ++ (if es[i].2 = x then [es[i].1] else [])) := by
  unfold nbrF
  rw [List.take_succ, List.getElem?_eq_getElem h, List.flatMap_append]
  simp
theorem nbrF_len {x : Str} : ∀ {es : List (Str × Str)}, (nbrF es x).length ≤ 2 * es.length
  | [] => by simp [nbrF]
  | e :: es => by
    have := nbrF_len (x := x) (es := es)
    unfold nbrF at *
    rw [List.flatMap_cons, List.length_append, List.length_append, List.length_cons]
    split <;> split <;> simp only [List.length_cons, List.length_nil] <;> omega
end
end Law


namespace Law
open PySem PySem.Spec PyProof.Rows L2 U


/-- the moves' pairs stand -/
def TupsAt (H : Hp) (ms : List (Addr × Str × Int)) : Prop := ∀ m ∈ ms, H m.1 = some (.tup [.str m.2.1, .int m.2.2])
theorem TupsAt.nil {H : Hp} : TupsAt H [] := fun m hm => nomatch hm
theorem TupsAt.same {H H' : Hp} {ms : List (Addr × Str × Int)} (h : TupsAt H ms) (s : Same H H') : TupsAt H' ms := fun m hm => s _ _ (h m hm)
theorem TupsAt.put {H : Hp} {ms : List (Addr × Str × Int)} {a : Addr} {xs ys : List V} (h : TupsAt H ms) (ha : H a = some (.lst xs)) : TupsAt (upd H a (.lst ys)) ms := fun m hm => at_upd (ne_of (h m hm) ha (by intro z; cases z)) (h m hm)
theorem TupsAt.new {H : Hp} {ms : List (Addr × Str × Int)} {a : Addr} {o : HO} (h : TupsAt H ms) (ha : H a = none) : TupsAt (upd H a o) ms := fun m hm => at_upd (ne_of_none (h m hm) ha) (h m hm)
section
variable {P : Program} {w : World} {K : PySem.W.Frag} {mg : Str → Option Value} {base : Heap}
end
end Law


namespace Law
open PySem PySem.Spec PyProof.Rows L2 U


theorem TupsAt.go {p : Addr} {H H' : Hp} {ms : List (Addr × Str × Int)} (h : TupsAt H ms) (hp : PoolAt H p) (g : Go p H H') : TupsAt H' ms := fun m hm => by
  obtain ⟨ys, hy⟩ := hp.isL
  exact g.but.tup hy (h m hm)
theorem Go.dK {p d : Addr} {H H' : Hp} {kvs : List (Key × V)} (g : Go p H H') (hp : PoolAt H p) (h : H d = some (.dK kvs)) : H' d = some (.dK kvs) := by
  obtain ⟨ys, hy⟩ := hp.isL
  exact g.but.dK hy h
theorem Go.tup {p d : Addr} {H H' : Hp} {xs : List V} (g : Go p H H') (hp : PoolAt H p) (h : H d = some (.tup xs)) : H' d = some (.tup xs) := by
  obtain ⟨ys, hy⟩ := hp.isL
  exact g.but.tup hy h
section
variable {P : Program} {w : World} {K : PySem.W.Frag} {mg : Str → Option Value} {base : Heap}
end
end Law

/-! repr of a list of data, dicts among it -/
namespace U
open PySem PySem.Spec PyProof.Rows L2
mutual
def tupOnly : PyData → Bool
  | .none | .bool _ | .int _ | .str _ => true
  | .tuple xs => tupOnlyAll xs
  | .list _ | .dict _ => false
def tupOnlyAll : List PyData → Bool
  | [] => true
  | x :: xs => tupOnly x && tupOnlyAll xs
end
mutual
theorem reads_nil {h : Heap} : ∀ (d : PyData) (v : Value) (as : List Addr), Reads h v d as → tupOnly d = true → as = []
  | .none, _, _, r, _ => by cases r; rfl
  | .bool _, _, _, r, _ => by cases r; rfl
  | .int _, _, _, r, _ => by cases r; rfl
  | .str _, _, _, r, _ => by cases r; rfl
  | .tuple xs, _, _, r, t => by
    cases r with
    | tuple h1 h2 h3 h4 => exact readsAll_nil xs _ _ h4 (by simpa [tupOnly] using t)
  | .list _, _, _, _, t => by simp [tupOnly] at t
  | .dict _, _, _, _, t => by simp [tupOnly] at t
theorem readsAll_nil {h : Heap} : ∀ (ds : List PyData) (vs : List Value) (as : List Addr), ReadsAll h vs ds as → tupOnlyAll ds = true → as = []
  | [], _, _, r, _ => by cases r; rfl
  | d :: ds, _, _, r, t => by
    rw [tupOnlyAll, Bool.and_eq_true] at t
    cases r with
    | cons r1 r2 => rw [reads_nil d _ _ r1 t.1, readsAll_nil ds _ _ r2 t.2]; rfl
end
/-- an item of the list: data of tuples, or a dict of numbers -/
inductive Di (K : PySem.W.Frag) (H : Hp) : V → PyData → Prop
  | of {v : V} {d : PyData} : Dp K H v d → tupOnly d = true → Di K H v d
  | dct {a : Addr} {ns : List Str} {f : Str → Int} : H a = some (.dK (kvF ns f)) → Di K H (.ref a) (.dict (ns.map fun n => (.str n, .int (f n))))
inductive DiAll (K : PySem.W.Frag) (H : Hp) : List V → List PyData → Prop
  | nil : DiAll K H [] []
  | cons {v : V} {vs : List V} {d : PyData} {ds : List PyData} : Di K H v d → DiAll K H vs ds → DiAll K H (v :: vs) (d :: ds)
structure Shows (d : PyData) : Prop where
  sh : d.showable = true
  lv : d.leavesShort 13 = true
  bk : d.bulk ≤ 2 ^ 20
  dp : d.depth ≤ 50
section
variable {X : Cx} {pins : List (Addr × Obj)} {σ : L2.St} {H : Hp} {s : Shared}
theorem Di.reads (I : Inv X pins σ H s) {v : V} {d : PyData} {u : Value} (h : Di X.K H v d) (r : RelV v u) : ∃ as, Reads s.heap u d as ∧ sysModules ∉ as := by
  cases h with
  | of h t =>
    obtain ⟨as, q⟩ := Dp.reads I _ _ _ h r
    have := reads_nil _ _ _ q t
    subst this
    exact ⟨_, q, List.not_mem_nil⟩
  | dct h =>
    cases r
    obtain ⟨_, hd, vs, rel, dd⟩ := dk_of I.hok h
    refine ⟨_, PyProof.V.reads_dictOf key_reads dd (kv_pairs rel), ?_⟩
    intro z
    rw [List.mem_singleton] at z
    rw [z] at hd
    simp at hd
theorem DiAll.reads (I : Inv X pins σ H s) : ∀ {vs : List V} {ds : List PyData} {us : List Value}, DiAll X.K H vs ds → Vals vs us → ∃ as, ReadsAll s.heap us ds as ∧ sysModules ∉ as
  | [], _, _, h, r => by
    cases h
    cases r
    exact ⟨_, .nil, List.not_mem_nil⟩
  | v :: vs, _, _, h, r => by
    cases h with
    | cons h1 h2 =>
      cases r with
      | cons r1 r2 =>
        obtain ⟨as, q1, n1⟩ := h1.reads I r1
        obtain ⟨bs, q2, n2⟩ := DiAll.reads I h2 r2
        exact ⟨_, .cons q1 q2, fun z => (List.mem_append.mp z).elim n1 n2⟩
end
/-! the shapes -/
theorem IsName.lv {z : Str} (h : IsName z) : (PyData.str z).leavesShort 13 = true := by
  rw [PyData.leavesShort, List.all_eq_true]
  intro x hx
  have := h.ch x hx
  rw [decide_eq_true_eq]
  omega
theorem IsName.bk {z : Str} (h : IsName z) : (PyData.str z).bulk ≤ 8 := by
  rw [PyData.bulk]
  exact h.hi
end U


namespace Law
open PySem PySem.Spec PyProof.Rows L2 U


theorem take_snoc {α : Type} {xs : List α} {i : Nat} (hi : i < xs.length) : xs.take (i + 1) = xs.take i ++ [xs[i]] := by
  rw [List.take_succ, List.getElem?_eq_getElem hi]
  rfl
theorem not_take {α : Type} {xs : List α} {i : Nat} (nd : xs.Nodup) (hi : i < xs.length) : xs[i] ∉ xs.take i := by
  intro hm
  obtain ⟨j, hj, e⟩ := List.mem_iff_getElem.mp hm
  rw [List.length_take] at hj
  have e' : xs[j] = xs[i] := by rw [← e, List.getElem_take]
  have z := List.pairwise_iff_getElem.mp (List.nodup_iff_pairwise_ne.mp nd)
  exact z j i (by omega) hi (by omega) e'
theorem lk_same {H H' : Hp} {a : Addr} {kvs : List (Key × V)} (ha : H a = some (.dK kvs)) (but : But a H H') : Same H (upd H' a (.dK kvs)) := fun b o hb => by
  by_cases e : b = a
  · subst e
    rw [ha] at hb
    rw [upd_same]
    exact hb
  · exact at_upd e (but b o e hb)
/-- the lists of the nodes' neighbours -/
structure AdjAt (H : Hp) (d : Addr) (ns : List Str) (es : List (Str × Str)) (A : Str → Addr) : Prop where
  di : H d = some (.dK (kvG ns fun n => .ref (A n)))
  li : ∀ n ∈ ns, ∃ ys : List Str, H (A n) = some (.lst (ys.map V.str)) ∧ ys.Perm (nbrF es n) ∧ ys.Pairwise fun a b => ¬ sLt b a
theorem AdjAt.same {H H' : Hp} {d : Addr} {ns : List Str} {es : List (Str × Str)} {A : Str → Addr} (h : AdjAt H d ns es A) (s : Same H H') : AdjAt H' d ns es A :=
  ⟨s _ _ h.di, fun n hn => by
    obtain ⟨ys, h1, h2⟩ := h.li n hn
    exact ⟨ys, s _ _ h1, h2⟩⟩
/-- a graph stands -/
structure GrS (H : Hp) (g n e : Addr) (ns : List Str) (es : List (Addr × Str × Str)) : Prop where
  gr : GrAt H g n e ns es
  ok : GrOk ns (es.map (·.2))
  l2 : ns.length ≤ 100
  l3 : es.length ≤ 1000
theorem GSt.grs {H : Hp} {g n e st : Addr} {ns ord : List Str} {es : List (Addr × Str × Str)} {f : Str → Int} (h : GSt H g n e st ns ord es f) : GrS H g n e ns es := ⟨h.gr, h.ok, h.l2, h.l3⟩
theorem GrS.same {H H' : Hp} {g n e : Addr} {ns : List Str} {es : List (Addr × Str × Str)} (h : GrS H g n e ns es) (s : Same H H') : GrS H' g n e ns es := ⟨h.gr.same s, h.ok, h.l2, h.l3⟩
theorem GrS.nd {H : Hp} {g n e : Addr} {ns : List Str} {es : List (Addr × Str × Str)} (h : GrS H g n e ns es) : ns.Nodup := asc_nodup h.ok.names.asc
theorem GrS.inE {H : Hp} {g n e : Addr} {ns : List Str} {es : List (Addr × Str × Str)} (h : GrS H g n e ns es) : ∀ x ∈ es, x.2.1 ∈ ns ∧ x.2.2 ∈ ns := fun x hx => h.ok.mem _ (List.mem_map_of_mem hx)
theorem GrS.ne {H : Hp} {g n e : Addr} {ns : List Str} {es : List (Addr × Str × Str)} (h : GrS H g n e ns es) : ∀ x ∈ es.map (·.2), x.1 ≠ x.2 := fun x hx z => by
  have := h.ok.lt x hx
  rw [z] at this
  exact sLt_irrefl _ this
def spAdj : Sp := fun vs H Q _ => ∃ (g n e : Addr) (ns : List Str) (es : List (Addr × Str × Str)), vs = [.ref g] ∧ GrS H g n e ns es ∧
  ∀ (d : Addr) (A : Str → Addr) (H' : Hp), Same H H' → H d = none → AdjAt H' d ns (es.map (·.2)) A → Q (.ref d) H'
def spAdjF : Sp := fun vs H Q _ => ∃ (g n e : Addr) (ns : List Str) (es : List (Addr × Str × Str)), vs = [.ref g] ∧ GrS H g n e ns es ∧
  ∀ (d : Addr) (A : Str → Addr) (H' : Hp), Same H H' → H d = none → AdjAt H' d ns (es.map (·.2)) A → (∀ m ∈ ns, H (A m) = none) → Q (.ref d) H'
theorem adj_weak {vs : List V} {H : Hp} {Q : VK} {E : XK} (h : spAdj vs H Q E) : spAdjF vs H Q E := by
  obtain ⟨g, n, e, ns, es, e1, gs, q⟩ := h
  exact ⟨g, n, e, ns, es, e1, gs, fun d A H' s n a _ => q d A H' s n a⟩
theorem FnG.weak {P : Program} {w : World} {K : PySem.W.Frag} {mg : Str → Option Value} {base : Heap} {CX : CXT} {k : Nat} {f : Addr} {fd : FuncData} {ps : List Str} {sp sp' : Sp} (F : FnG P w K mg base CX k f fd ps sp) (h : ∀ vs H Q E, sp' vs H Q E → sp vs H Q E) : FnG P w K mg base CX k f fd ps sp' :=
  ⟨fun vs H Q E z => F.len vs H Q E (h vs H Q E z), fun A outer s H args us vs Q E r e b v z => F.go A outer s H args us vs Q E r e b v (h vs H Q E z)⟩
theorem Cal.weak {P : Program} {w : World} {K : PySem.W.Frag} {mg : Str → Option Value} {base : Heap} {CX : CXT} {k : Nat} {x : Str} {sp sp' : Sp} (C : Cal P w K mg base CX k x sp) (h : ∀ vs H Q E, sp' vs H Q E → sp vs H Q E) : Cal P w K mg base CX k x sp' := by
  obtain ⟨f, fd, ps, F, r⟩ := C.ex
  exact ⟨⟨f, fd, ps, FnG.weak F h, r⟩⟩
/-- what grows at d: lists, one a name, apart -/
structure Grow (H H' : Hp) (d : Addr) (ns : List Str) (A : Str → Addr) (L : Str → List Str) : Prop where
  sm : Same H H'
  di : H' d = some (.dK (kvG ns fun n => .ref (A n)))
  li : ∀ n ∈ ns, H' (A n) = some (.lst ((L n).map V.str)) ∧ H (A n) = none
  ap : ∀ n ∈ ns, ∀ m ∈ ns, A n = A m → n = m
theorem Grow.put {H H' : Hp} {d : Addr} {ns : List Str} {A : Str → Addr} {L : Str → List Str} {n : Str} {ys : List Str} (h : Grow H H' d ns A L) (hn : n ∈ ns) : Grow H (upd H' (A n) (.lst (ys.map V.str))) d ns A (updV L n ys) := by
  refine ⟨same_put h.sm (h.li n hn).2, at_upd (ne_of h.di (h.li n hn).1 (by intro z; cases z)) h.di, fun m hm => ⟨?_, (h.li m hm).2⟩, h.ap⟩
  unfold updV
  by_cases e : m = n
  · subst e
    rw [if_pos rfl, upd_same]
  · rw [if_neg e]
    exact at_upd (fun z => e (h.ap m hm n hn z)) (h.li m hm).1
section
variable {P : Program} {w : World} {K : PySem.W.Frag} {mg : Str → Option Value} {base : Heap}
theorem ok_adjF {f : Addr} {fd : FuncData} (F : Fun K "adjacency" "adjacency" s_adjacency f fd) (B : Bt mg) : FnG P w K mg base CX0 1 f fd ["graph"] spAdjF := by
  refine fnG0 F sc_adjacency (fun vs H Q E h => ?_) (fun cdv A outer s H vs Q E hr h => ?_)
  · obtain ⟨g, n, e, ns, es, rfl, _⟩ := h
    rfl
  · obtain ⟨g, n, e, ns, es, rfl, gs, q⟩ := h
    have nd := sc_adjacency.nd
    have hu := hr.u1
    refine ⟨_, (pss_cons (ps_asg (pv 0) (kg_tup (n := 2) K rfl rfl (pgs_cons (pg_name (i := 1) nd rfl (by first | exact Or.inl rfl | exact Or.inr rfl)) (pgs_cons (pg_name (i := 2) nd rfl (by first | exact Or.inl rfl | exact Or.inr rfl)) pgs_nil))))
  (pss_cons (ps_setDc (i := 3) (own := [("node", 4)]) rfl nd rfl rfl (sw_dict rfl rfl rfl (by decide +kernel)) (ki_tup K rfl (pv 1)) (blkOk_by (own := [("node", 4)]) (N := nN_adjacency) (sc := defScope s_adjacency) (by decide +kernel)) (fun _ _ _ _ _ => (pg_name (i := 4) nd rfl (by first | exact Or.inl rfl | exact Or.inr rfl))) (fun _ _ _ _ _ => pts_nil) (fun _ _ _ _ _ => (pv 4)) (fun _ _ _ _ _ => (pe_lst pa_nil)))
  (pss_cons (ps_for PassesOwn.never rfl (ki_tup K rfl (pv 2)) (kg_tup (n := 2) K rfl rfl (pgs_cons (pg_name (i := 5) nd rfl (by first | exact Or.inl rfl | exact Or.inr rfl)) (pgs_cons (pg_name (i := 6) nd rfl (by first | exact Or.inl rfl | exact Or.inr rfl)) pgs_nil))) (pss_cons (ps_expr (pe_bm PySem.F.plainAttrs_list PySem.F.slot_list_append PySem.F.type_list_append mt_append (pe_dget hu (pv 3) (pv 5) (fun _ _ => rfl)) (pa_cons (pv 6) pa_nil)))
  (pss_one (ps_expr (pe_bm PySem.F.plainAttrs_list PySem.F.slot_list_append PySem.F.type_list_append mt_append (pe_dget hu (pv 3) (pv 6) (fun _ _ => rfl)) (pa_cons (pv 5) pa_nil))))))
  (pss_one (ps_ret (pe_lock (pe_dc (own := [("node", 4), ("some", 7)]) rfl nd (pi_items (pv 3)) (blkOk_by (own := [("node", 4), ("some", 7)]) (N := nN_adjacency) (sc := defScope s_adjacency) (by decide +kernel)) (fun _ _ _ _ _ => (kg_tup (n := 2) K rfl rfl (pgs_cons (pg_name (i := 4) nd rfl (by first | exact Or.inl rfl | exact Or.inr rfl)) (pgs_cons (pg_name (i := 7) nd rfl (by first | exact Or.inl rfl | exact Or.inr rfl)) pgs_nil)))) (fun _ _ _ _ _ => pts_nil) (fun _ _ _ _ _ => (pv 4)) (fun _ _ _ _ _ => (pe_callB (kSorted K rfl hr.u64) (by rfl) B.sorted bb_sorted (pa_cons (pv 7) pa_nil)))))))))), ?_⟩
    wtm_at "rd"
    refine rd_unp (SqT.of gs.gr.top) rfl ?_
    wtm_at "rd"
    refine rd_forT (SqT.of gs.gr.nodes) ?_
    intro D fD
    refine dcW (walk_tup (K := K) (a := n) (xs := ns.map V.str)) (fun i H' => ∃ A : Str → Addr, Grow H H' D (ns.take i) A (fun _ => [])) ⟨fun _ => 0, Same.new fD, upd_same, (fun n hn => nomatch hn), fun n hn => nomatch hn⟩ ?_ ?_ ?_
    · rintro i H' hi ⟨A, gw⟩
      exact SqT.of (gw.sm _ _ gs.gr.nodes)
    · rintro i x H' H2 hi ⟨A, gw⟩ ⟨rfl, hx⟩
      obtain ⟨hin, rfl⟩ := map_at hx
      wtm_at "rd"
      intro t ft
      refine rd_accD (k := .inr ns[i]) rfl (at_upd (ne_of_none gw.di ft) gw.di) (by rw [List.length_map, List.length_take]; have := gs.l2; omega) ?_
      have ntD : t ≠ D := Ne.symm (ne_of_none gw.di ft)
      have nin := not_take gs.nd hin
      have nt : ∀ m ∈ ns.take i, A m ≠ t := fun m hm => ne_of_none (gw.li m hm).1 ft
      refine ⟨updV A ns[i] t, same_put (same_add gw.sm ft) fD, ?_, ?_, ?_⟩
      · rw [upd_same, kvG_new nin, take_snoc hin]
        congr 2
        refine List.map_congr_left fun m _ => ?_
        show ((Sum.inr m : Key), updV (fun n => V.ref (A n)) ns[i] (.ref t) m) = (Sum.inr m, V.ref (updV A ns[i] t m))
        unfold updV
        by_cases z : m = ns[i]
        · rw [if_pos z, if_pos z]
        · rw [if_neg z, if_neg z]
      · intro m hm
        rw [take_snoc hin] at hm
        unfold updV
        rcases List.mem_append.mp hm with hm | hm
        · rw [if_neg (fun z => nin (by rw [← z]; exact hm))]
          exact ⟨at_upd (ne_of (gw.li m hm).1 gw.di (by intro z; cases z)) (at_upd (nt m hm) (gw.li m hm).1), (gw.li m hm).2⟩
        · rw [List.mem_singleton] at hm
          rw [if_pos hm]
          exact ⟨at_upd ntD upd_same, new_of_same gw.sm ft⟩
      · intro m hm m2 hm2 z
        rw [take_snoc hin] at hm hm2
        unfold updV at z
        rcases List.mem_append.mp hm with hm | hm <;> rcases List.mem_append.mp hm2 with hm2 | hm2
        · rw [if_neg (fun y => nin (by rw [← y]; exact hm)), if_neg (fun y => nin (by rw [← y]; exact hm2))] at z
          exact gw.ap m hm m2 hm2 z
        · rw [List.mem_singleton] at hm2
          rw [if_neg (fun y => nin (by rw [← y]; exact hm)), if_pos hm2] at z
          exact absurd z (nt m hm)
        · rw [List.mem_singleton] at hm
          rw [if_pos hm, if_neg (fun y => nin (by rw [← y]; exact hm2))] at z
          exact absurd z.symm (nt m2 hm2)
        · rw [List.mem_singleton] at hm hm2
          rw [hm, hm2]
    rintro H1 ⟨A, gw⟩
    rw [List.length_map, List.take_length] at gw
    wtm_at "rd"
    refine rd_forT (SqT.of (gw.sm _ _ gs.gr.edges)) ?_
    refine turnsT (K := K) (xs := es.map fun x => V.ref x.1) (fun i σ H' => ∃ u4 u5 u6 u7 : Option V, σ = [some (.ref g), some (.ref n), some (.ref e), some (.ref D), u4, u5, u6, u7] ∧ Grow H H' D ns A (fun m => nbrF ((es.map (·.2)).take i) m)) ⟨_, _, _, _, rfl, gw⟩ ?_ ?_ ?_
    · rintro i σ H' hi ⟨u4, u5, u6, u7, rfl, gw⟩
      exact SqT.of (gw.sm _ _ gs.gr.edges)
    · rintro i y σ H' hy ⟨u4, u5, u6, u7, rfl, gw⟩
      obtain ⟨hi, rfl⟩ := map_at hy
      have hm := List.getElem_mem hi
      obtain ⟨m1, m2⟩ := gs.inE _ hm
      have hne : es[i].2.1 ≠ es[i].2.2 := gs.ne es[i].2 (List.mem_map_of_mem hm)
      have hi2 : i < (es.map (·.2)).length := by rw [List.length_map]; exact hi
      have len : ∀ m, (nbrF ((es.map (·.2)).take i) m).length ≤ 2000 := fun m => by
        have := nbrF_len (x := m) (es := (es.map (·.2)).take i)
        rw [List.length_take, List.length_map] at this
        have := gs.l3
        omega
      have tk : ∀ m, nbrF ((es.map (·.2)).take (i + 1)) m = nbrF ((es.map (·.2)).take i) m ++ ((if es[i].2.1 = m then [es[i].2.2] else []) ++ (if es[i].2.2 = m then [es[i].2.1] else [])) := fun m => by
        have := nbrF_take (x := m) hi2
        rw [List.getElem_map] at this
        exact this
      refine rd_unp (SqT.of (gw.sm _ _ (gs.gr.pairs _ hm))) rfl ?_
      wtm_at "rd"
      refine rd_dat (.inl gw.di) (kvG_val m1) rfl ?_
      refine rd_tyL (gw.li _ m1).1 ?_
      wtm_at "rd"
      refine rd_append (gw.li _ m1).1 (by rw [List.length_map]; have := len es[i].2.1; omega) ?_
      have gw2 := gw.put (ys := nbrF ((es.map (·.2)).take i) es[i].2.1 ++ [es[i].2.2]) m1
      rw [List.map_append] at gw2
      wtm_at "rd"
      refine rd_dat (.inl gw2.di) (kvG_val m2) rfl ?_
      have l2 := (gw2.li _ m2).1
      have e2 : updV (fun m => nbrF ((es.map (·.2)).take i) m) es[i].2.1 (nbrF ((es.map (·.2)).take i) es[i].2.1 ++ [es[i].2.2]) es[i].2.2 = nbrF ((es.map (·.2)).take i) es[i].2.2 := if_neg (Ne.symm hne)
      rw [e2] at l2
      refine rd_tyL l2 ?_
      wtm_at "rd"
      refine rd_append l2 (by rw [List.length_map]; have := len es[i].2.2; omega) ?_
      have gw3 := gw2.put (ys := nbrF ((es.map (·.2)).take i) es[i].2.2 ++ [es[i].2.1]) m2
      rw [List.map_append] at gw3
      refine ⟨_, _, _, _, rfl, gw3.sm, gw3.di, fun m hm => ⟨?_, (gw3.li m hm).2⟩, gw3.ap⟩
      refine (gw3.li m hm).1.trans ?_
      congr 3
      rw [tk]
      unfold updV
      by_cases c2 : m = es[i].2.2
      · subst c2
        rw [if_pos rfl, if_neg hne, if_pos rfl, List.nil_append]
      · rw [if_neg c2]
        by_cases c1 : m = es[i].2.1
        · subst c1
          rw [if_pos rfl, if_pos rfl, if_neg (Ne.symm hne), List.append_nil]
        · rw [if_neg c1, if_neg (Ne.symm c1), if_neg (Ne.symm c2), List.append_nil, List.append_nil]
    rintro σ H2 ⟨u4, u5, u6, u7, rfl, gw2⟩
    rw [List.length_map, List.take_of_length_le (by rw [List.length_map]; exact Nat.le_refl _)] at gw2
    wtm_at "rd"
    refine rd_lockE gw2.di fun od => ?_
    wtm_at "rd"
    refine rd_forI upd_same ?_
    intro D2 fD2
    have nDa := new_ne fD2
    have fD20 := new_old fD2
    refine dcW walk_items (fun i H' => ∃ A2 : Str → Addr, But D H2 H' ∧ H' D = some (.frz od (.dK (kvG ns fun n => .ref (A n)))) ∧ H' D2 = some (.dK (kvG (ns.take i) fun n => .ref (A2 n))) ∧ (∀ m ∈ ns.take i, ∃ ys : List Str, H' (A2 m) = some (.lst (ys.map V.str)) ∧ (ys.Perm (nbrF (es.map (·.2)) m) ∧ ys.Pairwise fun a b => ¬ sLt b a)) ∧ ∀ m ∈ ns.take i, H (A2 m) = none)
      ⟨fun _ => 0, But.upd.trans (But.new fD2), at_upd (Ne.symm nDa) upd_same, upd_same, (fun m hm => nomatch hm), fun m hm => nomatch hm⟩ ?_ ?_ ?_
    · rintro i H' hi ⟨A2, _, hf, _⟩
      exact hf
    · rintro i x H' H3 hi ⟨A2, but, hf, hD, hl, fre⟩ ⟨T, x1, y1, rfl, fT, rfl, e1, e2⟩
      obtain ⟨hin, rfl, rfl⟩ := kvG_at e1 e2
      have hmem := List.getElem_mem hin
      have nin := not_take gs.nd hin
      have but2 : But D H2 (upd H' T (.tup [.str ns[i], .ref (A ns[i])])) := but.trans (But.new fT)
      have hf2 := at_upd (o := .tup [.str ns[i], .ref (A ns[i])]) (ne_of_none hf fT) hf
      have hD3 := at_upd (o := .tup [.str ns[i], .ref (A ns[i])]) (ne_of_none hD fT) hD
      have hl2 : ∀ m ∈ ns.take i, ∃ ys : List Str, upd H' T (.tup [.str ns[i], .ref (A ns[i])]) (A2 m) = some (.lst (ys.map V.str)) ∧ (ys.Perm (nbrF (es.map (·.2)) m) ∧ ys.Pairwise fun a b => ¬ sLt b a) := fun m hm => by
        obtain ⟨ys, z1, z2⟩ := hl m hm
        exact ⟨ys, at_upd (ne_of_none z1 fT) z1, z2⟩
      refine rd_unp (SqT.of upd_same) rfl ?_
      have ha := but2 _ _ (ne_of (gw2.li _ hmem).1 gw2.di (by intro z; cases z)) (gw2.li _ hmem).1
      generalize upd H' T (.tup [.str ns[i], .ref (A ns[i])]) = H4 at but2 hf2 hD3 hl2 ha
      wtm_at "rd"
      refine rd_sortS (SqL.of ha) (by have := nbrF_len (x := ns[i]) (es := es.map (·.2)); rw [List.length_map] at this; have := gs.l3; omega) ?_
      intro ys py sy l2 fl2
      refine rd_accD (k := .inr ns[i]) rfl (at_upd (ne_of_none hD3 fl2) hD3) (by rw [List.length_map, List.length_take]; have := gs.l2; omega) ?_
      have nl2D : l2 ≠ D2 := Ne.symm (ne_of_none hD3 fl2)
      have nH : H l2 = none := new_of_same gw2.sm (but2.free (Ne.symm (ne_of_none hf2 fl2)) fl2)
      refine ⟨updV A2 ns[i] l2, fun b' o' nb hb' => at_upd (ne_of_none hb' fD20) ((but2.trans (But.new fl2)) b' o' nb hb'), at_upd (Ne.symm nDa) (at_upd (ne_of_none hf2 fl2) hf2), ?_, ?_, ?_⟩
      · rw [upd_same, kvG_new nin, take_snoc hin]
        congr 2
        refine List.map_congr_left fun m _ => ?_
        show ((Sum.inr m : Key), updV (fun n => V.ref (A2 n)) ns[i] (.ref l2) m) = (Sum.inr m, V.ref (updV A2 ns[i] l2 m))
        unfold updV
        by_cases z : m = ns[i]
        · rw [if_pos z, if_pos z]
        · rw [if_neg z, if_neg z]
      · intro m hm
        rw [take_snoc hin] at hm
        unfold updV
        rcases List.mem_append.mp hm with hm | hm
        · rw [if_neg (fun z => nin (by rw [← z]; exact hm))]
          obtain ⟨zs, z1, z2⟩ := hl2 m hm
          exact ⟨zs, at_upd (ne_of z1 hD3 (by intro z; cases z)) (at_upd (ne_of_none z1 fl2) z1), z2⟩
        · rw [List.mem_singleton] at hm
          subst hm
          rw [if_pos rfl]
          exact ⟨ys, at_upd nl2D upd_same, py, sy⟩
      · intro m hm
        rw [take_snoc hin] at hm
        unfold updV
        rcases List.mem_append.mp hm with hm | hm
        · rw [if_neg (fun z => nin (by rw [← z]; exact hm))]
          exact fre m hm
        · rw [List.mem_singleton] at hm
          subst hm
          rw [if_pos rfl]
          exact nH
    rintro H' ⟨A2, but, hf, hD, hl, fre⟩
    rw [List.length_map, List.take_length] at hD hl fre
    refine ⟨hf, q D2 A2 _ (gw2.sm.trans (lk_same gw2.di but)) (new_of_same gw2.sm fD20) ⟨at_upd nDa hD, fun m hm => ?_⟩ fre⟩
    obtain ⟨ys, z1, z2⟩ := hl m hm
    exact ⟨ys, at_upd (ne_of z1 hf (by intro z; cases z)) z1, z2⟩
theorem ok_adj {f : Addr} {fd : FuncData} (F : Fun K "adjacency" "adjacency" s_adjacency f fd) (B : Bt mg) : FnG P w K mg base CX0 1 f fd ["graph"] spAdj := FnG.weak (ok_adjF F B) fun _ _ _ _ h => adj_weak h
end
end Law


namespace Law
open PySem PySem.Spec PyProof.Rows L2 U


section
variable {P : Program} {w : World} {K : PySem.W.Frag} {mg : Str → Option Value} {base : Heap}
end
end Law


namespace Law
open PySem PySem.Spec PyProof.Rows L2 U


def spIsInt (K : PySem.W.Frag) : Sp := fun vs H Q _ => ∃ (x : V) (a : Ty), vs = [x] ∧ TyIs K H x a ∧ Q (.bl (decide (a = .int))) H
def spIsVal : Sp := fun vs H Q _ => ∃ v : Int, vs = [.int v] ∧ Q (.bl (decide (0 ≤ v) && decide (v ≤ 2))) H
def spIsMove (K : PySem.W.Frag) : Sp := fun vs H Q _ => ∃ (g n e st ad c ps : Addr) (x : Str) (v : Int) (ns ord pn : List Str) (es : List (Addr × Str × Str)) (f : Str → Int) (Ad : Str → Addr), vs = [.ref g, .ref st, .ref ad, .ref c, .ref ps] ∧ GSt H g n e st ns ord es f ∧
  AdjAt H ad ns (es.map (·.2)) Ad ∧ H c = some (.tup [.str x, .int v]) ∧ Legal ns (es.map (·.2)) f pn (x, v) ∧ SqT K H ps (pn.map V.str) ∧ ∀ H' : Hp, Same H H' → Q (.bl true) H'
theorem GSt.re {H : Hp} {g n e st st' : Addr} {ns ord : List Str} {es : List (Addr × Str × Str)} {f f' : Str → Int} (h : GSt H g n e st ns ord es f) (hs : H st' = some (.dK (kvF ord f'))) (ok : EsOk ns (es.map (·.2)) f') : GSt H g n e st' ns ord es f' :=
  ⟨h.gr, h.ok, h.pm, h.l2, h.l3, hs, ok.tri, fun x hx => ok.pro _ (List.mem_map_of_mem hx)⟩
section
variable {P : Program} {w : World} {K : PySem.W.Frag} {mg : Str → Option Value} {base : Heap}
theorem ok_is_integer {f : Addr} {fd : FuncData} (F : Fun K "is_integer" "is_integer" s_is_integer f fd) (B : Bt mg) (Bb : mg "bool" = none) : FnG P w K mg base CX0 1 f fd ["candidate"] (spIsInt K) := by
  refine fnG0 F sc_is_integer (fun vs H Q E h => ?_) (fun cdv A outer s H vs Q E hr h => ?_)
  · obtain ⟨x, a, rfl, _⟩ := h
    rfl
  · obtain ⟨x, a, rfl, hx, q⟩ := h
    have nd := sc_is_integer.nd
    refine ⟨_, (pss_one (ps_ret (pe_and (pe_callB (kIsi K rfl) (by rfl) B.isinstance bb_isinstance (pa_cons (pv 0) (pa_cons (pe_ty rfl B.int bb_int) pa_nil))) (pe_one (pe_not (pe_callB (kIsi K rfl) (by rfl) B.isinstance bb_isinstance (pa_cons (pv 0) (pa_cons (pe_ty rfl Bb bb_bool) pa_nil)))))))), ?_⟩
    wtm_at "rd"
    refine rd_isi hx (t := .int) (by decide +kernel) ?_
    wtm_at "rd"
    refine rd_b (fun c => ?_) (fun c => ?_)
    · wtm_at "rd"
      refine rd_isi hx (t := .bl) (by decide +kernel) ?_
      wtm_at "rd"
      have : (!isT a .bl) = decide (a = .int) := by revert c; cases a <;> decide +kernel
      rw [this]
      exact q
    · have : decide (a = Ty.int) = false := by revert c; cases a <;> decide +kernel
      rw [this] at q
      exact q
structure C6 (P : Program) (w : World) (K : PySem.W.Frag) (mg : Str → Option Value) (base : Heap) : Prop where
  is_integer : Cal P w K mg base CX0 1 "is_integer" (spIsInt K)
theorem ok_is_value {f : Addr} {fd : FuncData} (F : Fun K "is_value" "is_value" s_is_value f fd) (B : Bt mg) (C : C6 P w K mg base) : FnG P w K mg base CX0 2 f fd ["candidate"] spIsVal := by
  refine fnG0 F sc_is_value (fun vs H Q E h => ?_) (fun cdv A outer s H vs Q E hr h => ?_)
  · obtain ⟨v, rfl, _⟩ := h
    rfl
  · obtain ⟨v, rfl, q⟩ := h
    have nd := sc_is_value.nd
    refine ⟨_, (pss_one (ps_ret (pe_and (pe_c C.is_integer hr (by decide) rfl (pa_cons (pv 0) pa_nil)) (pe_one (pe_chain uLe uLe pe_int (pv 0) pe_int))))), ?_⟩
    wtm_at "rd"
    refine ⟨_, .int, rfl, ty_int, ?_⟩
    wtm_at "rd"
    refine rd_T ?_
    wtm_at "rd"
    refine rd_split (fun c => ?_) (fun c => ?_)
    · wtm_at "rd"
      rw [decide_eq_true c, Bool.true_and] at q
      exact q
    · rw [decide_eq_false c, Bool.false_and] at q
      exact q
structure C8 (P : Program) (w : World) (K : PySem.W.Frag) (mg : Str → Option Value) (base : Heap) : Prop where
  adjacency : Cal P w K mg base CX0 1 "adjacency" spAdj
  is_move : Cal P w K mg base CX0 3 "is_move" (spIsMove K)
end
end Law

/-! exceptions that outlive their handler; own classes over own classes -/
namespace U
open PySem PySem.Spec PyProof.Rows L2
section
variable {X : Cx} {pins : List (Addr × Obj)} {σ : L2.St} {H : Hp} {sI s' : Shared} {B : Heap} {a : Addr} {cls : Value} {d : Option Addr} {oe : Obj} {vs : Array Value}
end
section
variable {X : Cx} {x n : Str} {c : Value} {i : Nat} {body suite : List Stmt} {b₀ : Stmt} {np pos pos' : Pos} {tb : WX → TS} {ts : TS} {Wout : WX}
end
/-! e.f of a tracked exception -/
/-! Base.__init__(self, ..), Base an own class over ValueError with no __init__ of its own -/
structure BaseI (K : PySem.W.Frag) (CB : Addr) : Prop where
  kp : PySem.W.keepIn K (.ref CB) = true
  ga : PySem.W.specialIn K (.ref CB) "__getattribute__" = some (some (.builtin "type.__getattribute__"))
  rd : PySem.W.readsIn K CB (.type "type") = true
  at_ : PySem.W.findCls K (.ref CB) (.type "type") "__init__" = some (.val (.builtin "ValueError.__init__"))
theorem pe_binit {X : Cx} {x : Str} {CB : Addr} {e : Expr} {es : List Expr} {ta : TA} {p1 p2 pos : Pos} {pl : Sem Bool} (hg : Gl X x) (hm : X.mg x = some (.ref CB)) (T : BaseI X.K CB) (ha : PA X (e :: es) ta)
    (hc : eval (.Call (.Attribute (.Name x p1) "__init__" p2) (e :: es) [] pos) X.env = (do
      let ov ← eval (.Name x p1) X.env
      standAt p2.atName
      let (f, first) ← holding [ov] (getMethod ov "__init__" pl)
      callWith pos f first (backTo pos (starEach (e :: es) X.env)) (backToKw pos (keywordEach [] X.env))) := by rfl)
    (hdb : (x == ("__debug__" : Str)) = false := by decide)
    (he : starEach (e :: es) X.env = (false, eval e X.env) :: starEach es X.env := by rfl) (hpl : (backTo pos (starEach es X.env)).any (·.1) = false := by rfl) :
    PE X (.Call (.Attribute (.Name x p1) "__init__" p2) (e :: es) [] pos) (tVeI X.K ta) := by
  refine ⟨fun pins s σ H Q I want => ?_⟩
  refine PySem.W.methodCall_KW (ld_glob I hg hm ?_ hdb) hc
  refine PySem.W.method_cls I.kIn T.ga (PySem.W.cls_value I.kIn T.rd T.at_ (by decide +kernel) ?_)
  show wpAny _ _ (callWith pos (Value.builtin "ValueError.__init__") [] (backTo pos (starEach (e :: es) X.env)) []) _ _ _
  refine PyProof.Rows.callWith_method1 (thn (ha.run pos pins _ σ H _ (I.tok _) want) fun us s1 ⟨vs, H1, I1, r1, a, C, ws, ev, hl, O, ea, q⟩ => ?_) he hpl
  subst ev
  cases r1 with
  | @cons _ u0 _ ur ra rest =>
    obtain rfl : u0 = Value.ref a := ra
    have few : ur.length ≤ sizeLine := by
      rw [← Paired.length rest, sizeLine_eq]
      omega
    exact oinit_ok O I1 ea few fun s2 J => ⟨.non, H1, J, rfl, q⟩
end U

/-! functions handed on: promises that speak of the cells which a handed function captured -/
namespace U
open PySem PySem.Spec PyProof.Rows L2 LamX NdefX
section
variable {P : Program} {w : World} {K : PySem.W.Frag} {mg : Str → Option Value} {base : Heap} {CX : CXT}
end
section
variable {X : Cx} {pins : List (Addr × Obj)} {σ : L2.St} {H : Hp} {s : Shared} {cl : List (Str × Addr)} {fr : List Str} {ws : List (Option V)} {js : List Nat}
end
end U

/-! enumerate(tuple) -/
namespace U
open PySem PySem.Spec PyProof.Rows L2
end U

/-! own exceptions with one field: made, raised, kept, read -/
namespace U
open PySem PySem.Spec PyProof.Rows L2
/-- __init__(self, v): the field f is v -/
def spInit1 (C : Addr) (f : Str) : Sp := fun vs H Q _ => ∃ (a : Addr) (v : V), vs = [.ref a, v] ∧ H a = some (exo a C none) ∧
  ∀ dx, H dx = none → dx ≠ a → Q .non (upd (upd H dx (exd dx [(f, v)])) a (exo a C (some dx)))
theorem rd_mk1 {C : Addr} {f : Str} {v : V} {H : Hp} {Q : XK} (h : ∀ (dd : Addr) (H' : Hp), Same H H' → H dd = none → H' dd = some (.xd [(f, v)]) → Q (.ref C) (some dd) H') :
    [v].length ≤ 1000 ∧ ∀ a, H a = none → spInit1 C f (.ref a :: ([v] ++ [])) (upd H a (exo a C none)) (fun w H2 => w = .non ∧ ∃ (d : Addr) (fs : List (Str × V)), H2 a = some (exo a C (some d)) ∧ H2 d = some (exd d fs) ∧ H d = none ∧ Q (.ref C) (some d) (upd (del H2 a) d (.xd fs))) (fun _ _ _ => False) := by
  refine ⟨(by show 1 ≤ 1000; decide), fun a na => ⟨a, v, rfl, upd_same, fun dx ndx nda => ⟨rfl, dx, [(f, v)], upd_same, ?_, ?_, ?_⟩⟩⟩
  · rw [upd_ne nda, upd_same]
  · rw [upd_ne nda] at ndx
    exact ndx
  · have nd0 : H dx = none := by
      rw [upd_ne nda] at ndx
      exact ndx
    refine h dx _ (fun b o e => ?_) nd0 upd_same
    have n1 : b ≠ dx := ne_of_none e nd0
    have n2 : b ≠ a := ne_of_none e na
    rw [upd_ne n1, del_ne n2, upd_ne n2, upd_ne n1, upd_ne n2]
    exact e
section
variable {σ : L2.St} {H : Hp} {Q : VK} {D : Ends} {K : PySem.W.Frag} {te : TE} {ta : TA}
theorem rd_vei {v : V} (h : ta σ H fun vs H1 => ∃ (a C : Addr) (ws : List V), vs = .ref a :: ws ∧ ws.length ≤ 1000 ∧ OexC K C ∧ H1 a = some (exo a C none) ∧ Q .non H1) : tVeI K ta σ H Q := h
theorem rd_ost {f : Str} {to : TE} (h : te σ H fun y H1 => to σ H1 fun x H2 => ∃ a C : Addr, x = .ref a ∧ OexC K C ∧ PySem.W.findIn K (.ref C) f = some none ∧
  ((H2 a = some (exo a C none) ∧ ∀ dx, H2 dx = none → dx ≠ a → D.nx σ (upd (upd H2 dx (exd dx [(f, y)])) a (exo a C (some dx)))) ∨
    ∃ (dx : Addr) (fs : List (Str × V)), H2 a = some (exo a C (some dx)) ∧ H2 dx = some (exd dx fs) ∧ fs.length ≤ 900 ∧ D.nx σ (upd H2 dx (exd dx ((f, y) :: fs))))) : tOst K f to te D σ H := h
end
/-! the class's facts, gathered -/
structure OwnX (K : PySem.W.Frag) (mg : Str → Option Value) (x : Str) (f : Str) (C CB fI : Addr) : Prop where
  gC : mg x = some (.ref C)
  ox : OexC K C
  no : PySem.W.findIn K (.ref C) f = some none
  iC : PySem.W.findIn K (.ref C) "__init__" = some (some (.ref fI))
  tI : PySem.W.typeIn K (.ref fI) = some (.type "function")
  xf : XfC K C
  gB : mg "InputError" = some (.ref CB)
  bi : BaseI K CB
  ex : PySem.W.exmOne K (.ref C) (.ref C) = some true
  eb : PySem.W.exmOne K (.ref C) (.ref CB) = some true
end U


/-! is_move of anything -/
namespace Law
open PySem PySem.Spec PyProof.Rows L2 U


/-- c: not a move by its form (o = none), or a text and a number -/
inductive CandAt (K : PySem.W.Frag) (H : Hp) : V → Option (Str × Int) → Prop
  | odd {c : V} {a : Ty} : TyIs K H c a → isT a .tup = false → CandAt K H c none
  | len {a : Addr} {xs : List V} : H a = some (.tup xs) → xs.length ≠ 2 → CandAt K H (.ref a) none
  | node {a : Addr} {x y : V} {t : Ty} : H a = some (.tup [x, y]) → TyIs K H x t → isT t .str = false → CandAt K H (.ref a) none
  | val {a : Addr} {x : Str} {y : V} {t : Ty} : H a = some (.tup [.str x, y]) → TyIs K H y t → t ≠ .int → CandAt K H (.ref a) none
  | mv {a : Addr} {x : Str} {v : Int} : H a = some (.tup [.str x, .int v]) → CandAt K H (.ref a) (some (x, v))
def spHasV (K : PySem.W.Frag) : Sp := fun vs H Q _ => ∃ (g n e : Addr) (x : V) (t : Ty) (ns : List Str) (es : List (Addr × Str × Str)), vs = [.ref g, x] ∧ GrAt H g n e ns es ∧ ((TyIs K H x t ∧ isT t .str = false ∧ Q (.bl false) H) ∨ ∃ s, x = .str s ∧ Q (.bl (decide (s ∈ ns))) H)
section
variable {P : Program} {w : World} {K : PySem.W.Frag} {mg : Str → Option Value} {base : Heap}
theorem ok_hasV {f : Addr} {fd : FuncData} (F : Fun K "has_node" "has_node" s_has_node f fd) (B : Bt mg) : FnG P w K mg base CX0 1 f fd ["graph", "candidate"] (spHasV K) := by
  refine fnG0 F sc_has_node (fun vs H Q E h => ?_) (fun cdv A outer s H vs Q E hr h => ?_)
  · obtain ⟨g, n, e, x, t, ns, es, rfl, _⟩ := h
    rfl
  · obtain ⟨g, n, e, x, t, ns, es, rfl, hg, q⟩ := h
    have nd := sc_has_node.nd
    refine ⟨_, (pss_one (ps_ret (pe_and (pe_callB (kIsi K rfl) (by rfl) B.isinstance bb_isinstance (pa_cons (pv 1) (pa_cons (pe_ty rfl B.str bb_str) pa_nil))) (pe_one (pe_cmpR (kIn K rfl) (pv 1) (pe_ix (kIx K rfl) (pv 0) pe_int (fun _ _ => rfl)) rfl))))), ?_⟩
    wtm_at "rd"
    rcases q with ⟨ht, hs, q⟩ | ⟨s, rfl, q⟩
    · refine rd_isi ht (t := .str) (by decide +kernel) ?_
      rw [hs]
      wtm_at "rd"
      exact q
    refine rd_isi ty_str (t := .str) (by decide +kernel) ?_
    rw [show isT .str .str = true from by decide +kernel]
    wtm_at "rd"
    refine rd_ixT (SqT.of hg.top) (v := .ref n) rfl ?_
    refine rd_inST (SqT.of hg.nodes) ?_
    exact q
end
end Law

/-! calls with keywords and defaults of a def that may raise -/
namespace U
open PySem PySem.Spec PyProof.Rows L2
/-- an own error with one field, its __init__ done -/
structure ErrX (P : Program) (w : World) (K : PySem.W.Frag) (mg : Str → Option Value) (base : Heap) (x f : Str) (C CB : Addr) : Prop where
  ex : ∃ (fI : Addr) (fd : FuncData), OwnX K mg x f C CB fI ∧ FnOk P w K mg base CX0 1 fI fd ["self", f] (spInit1 C f) ∧ Binds K fd ["self", f] []
/-- raise X(e): reading rd_rz, e's, rd_mk1 -/
def tRz (C : Addr) (f : Str) (te : TE) (W : WX) : TS := fun _ σ H => tMkO C (spInit1 C f) [] (tCons te tNil) σ H fun cls d H' => W cls d σ H'
theorem ps_rz {X : Cx} {W : WX} {j : Nat} {x f : Str} {C CB : Addr} {e : Expr} {te : TE} {p p2 pos : Pos} (T : ErrX X.prog X.w X.K X.mg X.base x f C CB) (hr : Rm j X.A) (hk : 2 ≤ j) (hc : X.calm = true) (tk : Takes X W) (hg : Gl X x) (he : PE X e te)
    (hdb : (x == ("__debug__" : Str)) = false := by decide) (hs : starEach [e] X.env = (false, eval e X.env) :: starEach [] X.env := by rfl) (hpl : (backTo p2 (starEach [] X.env)).any (·.1) = false := by rfl) :
    PS X (.Raise (some (.Call (.Name x p) [e] [] p2)) none pos) (tRz C f te W) := by
  obtain ⟨fI, fd, T1, F1, b⟩ := T.ex
  exact ps_raise (pos := pos) hc tk (pmk_oex (p := p) (pos := p2) (dvs := []) T1.ox T1.iC T1.tI F1 (hr.r.mono hk) b .nil pass0 hg T1.gC (pa_cons he pa_nil (hs := hs)) hdb hs hpl)
theorem rd_rz {C : Addr} {f : Str} {te : TE} {W : WX} {D : Ends} {σ : L2.St} {H : Hp} (h : tCons te tNil σ H fun vs H1 => vs.length ≤ 1000 ∧ ∀ a, H1 a = none → spInit1 C f (.ref a :: (vs ++ [])) (upd H1 a (exo a C none))
  (fun v H2 => v = .non ∧ ∃ (d : Addr) (fs : List (Str × V)), H2 a = some (exo a C (some d)) ∧ H2 d = some (exd d fs) ∧ H1 d = none ∧ W (.ref C) (some d) σ (upd (del H2 a) d (.xd fs))) (fun _ _ _ => False)) : tRz C f te W D σ H := h
end U


/-! apply_moves of anything -/
namespace Law
open PySem PySem.Spec PyProof.Rows L2 U


theorem rd_rz {C : Addr} {f : Str} {te : TE} {W : WX} {D : Ends} {σ : L2.St} {H : Hp} (h : tCons te tNil σ H fun vs H1 => vs.length ≤ 1000 ∧ ∀ a, H1 a = none → spInit1 C f (.ref a :: (vs ++ [])) (upd H1 a (exo a C none))
  (fun v H2 => v = .non ∧ ∃ (d : Addr) (fs : List (Str × V)), H2 a = some (exo a C (some d)) ∧ H2 d = some (exd d fs) ∧ H1 d = none ∧ W (.ref C) (some d) σ (upd (del H2 a) d (.xd fs))) (fun _ _ _ => False)) : tRz C f te W D σ H := h
theorem tyx_same {K : PySem.W.Frag} {H H' : Hp} {x : V} {t : Value} (h : TyX K H x t) (s : Same H H') : TyX K H' x t := by
  cases h with
  | base h =>
    cases h with
    | non => exact .base .non
    | bl x => exact .base (.bl x)
    | int x => exact .base (.int x)
    | str x => exact .base (.str x)
    | flt x => exact .base (.flt x)
    | lst e => exact .base (.lst (s _ _ e))
    | frz e => exact .base (.frz (s _ _ e))
    | tup e => exact .base (.tup (s _ _ e))
    | dK e => exact .base (.dK (s _ _ e))
    | dT e => exact .base (.dT (s _ _ e))
    | ins e a b c d f => exact .base (.ins (s _ _ e) a b c d f)
  | byt b => exact .byt b
  | set e => exact .set (s _ _ e)
  | kList e c => exact .kList e c
  | kTuple e c => exact .kTuple e c
  | kDict e c => exact .kDict e c
  | fTuple e => exact .fTuple (s _ _ e)
  | fDict e => exact .fDict (s _ _ e)
theorem CandAt.same {K : PySem.W.Frag} {H H' : Hp} {c : V} {o : Option (Str × Int)} (h : CandAt K H c o) (s : Same H H') : CandAt K H' c o := by
  cases h with
  | odd a b => exact .odd (tyx_same a s) b
  | len a b => exact .len (s _ _ a) b
  | node a b c => exact .node (s _ _ a) (tyx_same b s) c
  | val a b c => exact .val (s _ _ a) (tyx_same b s) c
  | mv a => exact .mv (s _ _ a)
section
variable {P : Program} {w : World} {K : PySem.W.Frag} {mg : Str → Option Value} {base : Heap}
end
end Law


namespace Law
open PySem PySem.Spec PyProof.Rows L2 U


section
variable {P : Program} {w : World} {K : PySem.W.Frag} {mg : Str → Option Value} {base : Heap}
end
end Law


namespace Law
open PySem PySem.Spec PyProof.Rows L2 U


def spSlope : Sp := fun vs H Q _ => ∃ (st : Addr) (a b : Str) (ord : List Str) (f : Str → Int), vs = [.ref st, .str a, .str b] ∧ Rd H st (.dK (kvF ord f)) ∧ a ∈ ord ∧ b ∈ ord ∧ Q (.int (slp f a b)) H
section
variable {P : Program} {w : World} {K : PySem.W.Frag} {mg : Str → Option Value} {base : Heap}
structure D1c (mg : Str → Option Value) : Prop where
  UP : ∃ u, mg "UP" = some u ∧ RelV (.int 1) u
  DOWN : ∃ u, mg "DOWN" = some u ∧ RelV (.int (-1)) u
theorem ok_slope {f : Addr} {fd : FuncData} (F : Fun K "slope" "slope" s_slope f fd) (B : Bt mg) (C : D1c mg) : FnG P w K mg base CX0 1 f fd ["state", "node", "neighbor"] spSlope := by
  refine fnG0 F sc_slope (fun vs H Q E h => ?_) (fun cdv A outer s H vs Q E hr h => ?_)
  · obtain ⟨st, a, b, ord, f, rfl, _⟩ := h
    rfl
  · obtain ⟨st, a, b, ord, f, rfl, hst, ha, hb, q⟩ := h
    have nd := sc_slope.nd
    have hu := hr.u1
    refine ⟨_, (pss_one (ps_ret (pe_ifExp (pt_cmpR (kEq K rfl hr.u64) (pe_op uMod (pe_op uSub (pe_dget hu (pv 0) (pv 2) (fun _ _ => rfl)) (pe_dget hu (pv 0) (pv 1) (fun _ _ => rfl))) pe_int) pe_int (nomark _)) (pe_gl rfl C.UP) (pe_gl rfl C.DOWN)))), ?_⟩
    wtm_at "rd"
    refine rd_dat hst (kvF_val hb) rfl ?_
    wtm_at "rd"
    refine rd_dat hst (kvF_val ha) rfl ?_
    wtm_at "rd"
    unfold slp at q
    refine rd_split (fun c => ?_) (fun c => ?_)
    · rw [if_pos c] at q
      exact q
    · rw [if_neg c] at q
      exact q
end
end Law


/-! paths found level by level: paths_from, sloped_paths -/
namespace Law
open PySem PySem.Spec PyProof.Rows L2 U


theorem rd_disp {σ : L2.St} {H : Hp} {Q : VK} {tk tv : TE} (h : ∀ p, H p = none → tk σ (upd H p (.dK [])) fun x H1 => tv σ H1 fun y H2 => H2 p = some (.dK []) ∧ ∃ kvs : List (Key × V), [(x, y)] = kvs.map (fun kv => (kV kv.1, kv.2)) ∧ kvs.length ≤ 15 ∧ Q (.ref p) (upd H2 p (.dK (mergeK [] kvs)))) : tDisp [(tk, tv)] σ H Q := h
theorem rd_dispE {H2 : Hp} {p : Addr} {x y : V} {k : Key} {R : List (Key × V) → Prop} (hx : x = kV k) (h0 : H2 p = some (.dK [])) (q : R [(k, y)]) : H2 p = some (.dK []) ∧ ∃ kvs : List (Key × V), [(x, y)] = kvs.map (fun kv => (kV kv.1, kv.2)) ∧ kvs.length ≤ 15 ∧ R kvs :=
  ⟨h0, [(k, y)], by rw [hx]; rfl, (by show 1 ≤ 15; decide), q⟩
theorem rd_augI {n : Nat} {i : Int} {g : Int → Int → Int} {te : TE} {D : Ends} {σ : L2.St} {H : Hp} (hv : σ[n]? = some (some (.int i))) (h : te σ H fun y H1 => ipI g (.int i) y H1 fun z H2 => D.nx (σ.set n (some z)) H2) : tAug n te (ipI g) D σ H := ⟨_, hv, h⟩
theorem rd_ipI {g : Int → Int → Int} {i j : Int} {H : Hp} {Q : VK} (h : Q (.int (g i j)) H) : ipI g (.int i) (.int j) H Q := ⟨i, j, rfl, rfl, h⟩
theorem AdjAt.at {H : Hp} {d : Addr} {ns : List Str} {es : List (Str × Str)} {A : Str → Addr} (h : AdjAt H d ns es A) (ok : GrOk ns es) {n : Str} (hn : n ∈ ns) : H (A n) = some (.lst ((nbS es n).map V.str)) := by
  obtain ⟨ys, h1, h2, h3⟩ := h.li n hn
  rw [← nbS_of ok h2 h3]
  exact h1
/-- paths found stand at d -/
structure PathsAt (H : Hp) (d : Addr) (kp : List (Str × List Str)) (A : Str → Addr) : Prop where
  di : H d = some (.dK (kvG (keysF kp) fun n => .ref (A n)))
  li : ∀ c ∈ kp, H (A c.1) = some (.lst (c.2.map V.str))
theorem PathsAt.same {H H' : Hp} {d : Addr} {kp : List (Str × List Str)} {A : Str → Addr} (h : PathsAt H d kp A) (s : Same H H') : PathsAt H' d kp A := ⟨s _ _ h.di, fun c hc => s _ _ (h.li c hc)⟩
theorem kvG_congr {ns : List Str} {F G : Str → V} (h : ∀ n ∈ ns, F n = G n) : kvG ns F = kvG ns G := List.map_congr_left fun n hn => by rw [h n hn]
/-- one more path -/
theorem PathsAt.put {H : Hp} {d t : Addr} {kp : List (Str × List Str)} {A : Str → Addr} {o : Str} {p : List Str} (h : PathsAt H d kp A) (no : o ∉ keysF kp) (ht : H t = some (.lst (p.map V.str))) :
    PathsAt (upd H d (.dK (putK (kvG (keysF kp) fun n => .ref (A n)) (.inr o) (.ref t)))) d (kp ++ [(o, p)]) (updV A o t) := by
  refine ⟨?_, fun c hc => ?_⟩
  · rw [upd_same, kvG_new no, show keysF (kp ++ [(o, p)]) = keysF kp ++ [o] from List.map_append]
    congr 2
    refine kvG_congr fun m _ => ?_
    unfold updV
    by_cases z : m = o
    · rw [if_pos z, if_pos z]
    · rw [if_neg z, if_neg z]
  · unfold updV
    rcases List.mem_append.mp hc with hc | hc
    · rw [if_neg (fun z => no (by rw [← z]; exact List.mem_map_of_mem hc))]
      exact at_upd (ne_of (h.li c hc) h.di (by intro z; cases z)) (h.li c hc)
    · rw [List.mem_singleton] at hc
      subst hc
      rw [if_pos rfl]
      exact at_upd (ne_of ht h.di (by intro z; cases z)) ht
theorem PathsAt.off {H : Hp} {d q : Addr} {kp : List (Str × List Str)} {A : Str → Addr} {xs ys : List V} (h : PathsAt H d kp A) (hq : H q = some (.lst xs)) (off : ∀ c ∈ kp, A c.1 ≠ q) : PathsAt (upd H q (.lst ys)) d kp A :=
  ⟨at_upd (ne_of h.di hq (by intro z; cases z)) h.di, fun c hc => at_upd (off c hc) (h.li c hc)⟩
def slOk (f : Str → Int) (dir : Int) (a b : Str) : Bool := decide (slp f a b = dir)
abbrev slF (es : List (Str × Str)) (f : Str → Int) (dir : Int) (x : Str) : List (Str × List Str) := pathsF (nbS es) (slOk f dir) x
def spSloped : Sp := fun vs H Q _ => ∃ (g n e st : Addr) (x : Str) (dir : Int) (ns ord : List Str) (es : List (Addr × Str × Str)) (f : Str → Int), vs = [.ref g, .ref st, .str x, .int dir] ∧ GSt H g n e st ns ord es f ∧ x ∈ ns ∧
  ∀ (d : Addr) (A : Str → Addr) (H' : Hp), Same H H' → H d = none → (∀ c ∈ slF (es.map (·.2)) f dir x, H (A c.1) = none) → PathsAt H' d (slF (es.map (·.2)) f dir x) A → Q (.ref d) H'
section
variable {P : Program} {w : World} {K : PySem.W.Frag} {mg : Str → Option Value} {base : Heap}
structure B1c (P : Program) (w : World) (K : PySem.W.Frag) (mg : Str → Option Value) (base : Heap) : Prop where
  adjacency : Cal P w K mg base CX0 1 "adjacency" spAdj
  slope : Cal P w K mg base CX0 1 "slope" spSlope
theorem ok_sloped {f : Addr} {fd : FuncData} (F : Fun K "sloped_paths" "sloped_paths" s_sloped_paths f fd) (B : Bt mg) (C : B1c P w K mg base) : FnG P w K mg base CX0 2 f fd ["graph", "state", "node", "direction"] spSloped := by
  refine fnG0 F sc_sloped_paths (fun vs H Q E h => ?_) (fun cdv A outer s H vs Q E hr h => ?_)
  · obtain ⟨g, n, e, st, x, dir, ns, ord, es, f, rfl, _⟩ := h
    rfl
  · obtain ⟨g, n, e, st, x, dir, ns, ord, es, f, rfl, gs, hx, q⟩ := h
    have nd := sc_sloped_paths.nd
    have hu := hr.u1
    refine ⟨_, (pss_cons (ps_set (i := 4) nd rfl (by first | exact Or.inl rfl | exact Or.inr rfl) (pe_c C.adjacency hr (by decide) rfl (pa_cons (pv 0) pa_nil)))
  (pss_cons (ps_set (i := 5) nd rfl (by first | exact Or.inl rfl | exact Or.inr rfl) (pe_disp (pps_cons (pv 2) (pe_lst (pa_cons (pv 2) pa_nil)) pps_nil) (by rfl) (by rfl) (fun z => by cases z) (by decide)))
  (pss_cons (ps_set (i := 6) nd rfl (by first | exact Or.inl rfl | exact Or.inr rfl) (pe_lst (pa_cons (pv 2) pa_nil)))
  (pss_cons (ps_set (i := 7) nd rfl (by first | exact Or.inl rfl | exact Or.inr rfl) pe_int)
  (pss_cons (ps_while PassesOwn.never (pt_cmpR uLt (pv 7) (pe_callB (kLen K rfl) (by rfl) B.len bb_len (pa_cons (pv 6) pa_nil)) (nomark _)) (pss_cons (ps_set (i := 8) nd rfl (by first | exact Or.inl rfl | exact Or.inr rfl) (pe_ix (kIx K rfl) (pv 6) (pv 7) (fun _ _ => rfl)))
  (pss_cons (ps_aug (i := 7) nd rfl (Or.inl rfl) pe_int ip_add)
  (pss_one (ps_for PassesOwn.never rfl (ki_list K rfl (pe_dget hu (pv 4) (pv 8) (fun _ _ => rfl))) (pg_name (i := 9) nd rfl (by first | exact Or.inl rfl | exact Or.inr rfl)) (pss_one (ps_if (PW.pt (pw_and (pt_cmp (pc_dnotin hu (pv 9) (pv 5))) (pw_and1 (pt_cmpR (kEq K rfl hr.u64) (pe_c C.slope hr (by decide) rfl (pa_cons (pv 1) (pa_cons (pv 8) (pa_cons (pv 9) pa_nil)))) (pv 3) (nomark _))))) (pss_cons (ps_dput hu (pv 5) (pv 9) (pe_op (kAdd K rfl) (pe_dget hu (pv 5) (pv 8) (fun _ _ => rfl)) (pe_lst (pa_cons (pv 9) pa_nil))) rfl)
  (pss_one (ps_expr (pe_bm PySem.F.plainAttrs_list PySem.F.slot_list_append PySem.F.type_list_append mt_append (pv 6) (pa_cons (pv 9) pa_nil))))) pss_nil)))))))
  (pss_one (ps_ret (pv 5)))))))), ?_⟩
    wtm_at "rd"
    refine ⟨g, n, e, ns, es, rfl, gs.grs, fun ad Ad H1 s1 _ had => ?_⟩
    have gs1 := gs.same s1
    wtm_at "rd"
    refine rd_disp fun D fD => ?_
    wtm_at "rd"
    intro t ft
    have ntD := new_ne ft
    refine rd_dispE (x := .str x) (y := .ref t) (k := .inr x) rfl (at_upd (Ne.symm ntD) upd_same) ?_
    rw [show mergeK [] [((Sum.inr x : Key), V.ref t)] = [(Sum.inr x, V.ref t)] from rfl]
    have s2 : Same H1 (upd (upd (upd H1 D (.dK [])) t (.lst [.str x])) D (.dK [(.inr x, .ref t)])) := same_put (same_add (Same.new fD) ft) fD
    have ft1 := new_of_same (Same.new (o := .dK []) fD) ft
    have pa : PathsAt (upd (upd (upd H1 D (.dK [])) t (.lst [.str x])) D (.dK [(.inr x, .ref t)])) D (stF (nbS (es.map (·.2))) (slOk f dir) x 0) fun _ => t := ⟨upd_same, fun c hc => by
      rw [stF, List.mem_singleton] at hc
      subst hc
      exact at_upd ntD upd_same⟩
    generalize upd (upd (upd H1 D (.dK [])) t (.lst [.str x])) D (.dK [(.inr x, .ref t)]) = H2 at s2 pa
    wtm_at "rd"
    intro qa fq
    have fq1 := new_of_same s2 fq
    have s3 := same_add (o := .lst [.str x]) s2 fq
    have nDq : D ≠ qa := ne_of_none pa.di fq
    have pa3 := pa.same (Same.new (o := .lst [.str x]) fq)
    have ntq : t ≠ qa := ne_of_none (pa.li (x, [x]) List.mem_cons_self) fq
    have hq3 := @upd_same H2 qa (.lst [.str x])
    generalize upd H2 qa (.lst [.str x]) = H3 at s3 pa3 hq3
    wtm_at "rd"
    have cl : ∀ a ∈ ns, ∀ b ∈ nbS (es.map (·.2)) a, b ∈ ns := fun a _ b hb => nbS_in gs.ok hb
    refine ⟨fun m σ H' => ∃ (i : Nat) (A : Str → Addr) (u8 u9 : Option V), m = ns.length + 1 - i ∧ i ≤ ns.length ∧ σ = [some (.ref g), some (.ref st), some (.str x), some (.int dir), some (.ref ad), some (.ref D), some (.ref qa), some (.int i), u8, u9] ∧ Same H1 H' ∧
      PathsAt H' D (stF (nbS (es.map (·.2))) (slOk f dir) x i) A ∧ (∀ c ∈ stF (nbS (es.map (·.2))) (slOk f dir) x i, H1 (A c.1) = none ∧ A c.1 ≠ qa) ∧ H' qa = some (.lst ((keysF (stF (nbS (es.map (·.2))) (slOk f dir) x i)).map V.str)),
      ⟨_, 0, fun _ => t, _, _, rfl, Nat.zero_le _, rfl, s3, pa3, fun c _ => ⟨ft1, ntq⟩, hq3⟩, ?_⟩
    rintro m σ H' ⟨i, A, u8, u9, rfl, il, rfl, s, pa, fr, hq⟩
    have sl := stF_len (ok := slOk f dir) cl hx i
    have hin : ∀ c ∈ stF (nbS (es.map (·.2))) (slOk f dir) x i, c.1 ∈ ns := fun c hc => reach_mem cl hx (stF_reach (List.mem_map_of_mem hc))
    wtm_at "rd"
    refine rd_lenL (SqL.of hq) ?_
    rw [List.length_map, List.length_map]
    wtm_at "rd"
    refine rd_split (fun c0 => ?_) (fun c0 => ?_)
    case refine_2 =>
      rw [stF_done (by omega) (by have := gs.l2; omega)] at pa fr
      wtm_at "rd"
      exact q D A H' (s1.trans s) (new_of_same s1 fD) (fun c hc => new_of_same s1 (fr c hc).1) pa
    have hi : i < (stF (nbS (es.map (·.2))) (slOk f dir) x i).length := by omega
    refine ⟨fun σ' H' => ∃ (A : Str → Addr) (u8 u9 : Option V), σ' = [some (.ref g), some (.ref st), some (.str x), some (.int dir), some (.ref ad), some (.ref D), some (.ref qa), some (.int (i + 1 : Nat)), u8, u9] ∧ Same H1 H' ∧
      PathsAt H' D (stF (nbS (es.map (·.2))) (slOk f dir) x (i + 1)) A ∧ (∀ c ∈ stF (nbS (es.map (·.2))) (slOk f dir) x (i + 1), H1 (A c.1) = none ∧ A c.1 ≠ qa) ∧ H' qa = some (.lst ((keysF (stF (nbS (es.map (·.2))) (slOk f dir) x (i + 1))).map V.str)),
      fun σ' H' ⟨A, u8, u9, h1, h2, h3, h4, h5⟩ => ⟨ns.length + 1 - (i + 1), by omega, i + 1, A, u8, u9, rfl, by omega, h1, h2, h3, h4, h5⟩, ?_⟩
    have e1 : (stF (nbS (es.map (·.2))) (slOk f dir) x i)[i]? = some (stF (nbS (es.map (·.2))) (slOk f dir) x i)[i] := List.getElem?_eq_getElem hi
    have cm := List.getElem_mem hi
    rw [stF_at e1]
    wtm_at "rd"
    refine rd_ixL (SqL.of hq) (atI_nat (v := .str (stF (nbS (es.map (·.2))) (slOk f dir) x i)[i].1) (by rw [List.getElem?_map, List.getElem?_map, e1]; rfl)) ?_
    have cn := hin _ cm
    have cp := pa.li _ cm
    have cq := fr _ cm
    have cpl := stF_plen _ _ cm
    generalize (stF (nbS (es.map (·.2))) (slOk f dir) x i)[i] = c at *
    generalize hkp : stF (nbS (es.map (·.2))) (slOk f dir) x i = kp at *
    have lkp : (keysF kp).Nodup := by rw [← hkp]; exact stF_nodup i
    wtm_at "rd"
    refine rd_augI rfl ?_
    wtm_at "rd"
    refine rd_ipI ?_
    have ei : (i : Int) + 1 = ((i + 1 : Nat) : Int) := by omega
    rw [ei]
    wtm_at "rd"
    refine rd_dat (.inl (s _ _ had.di)) (kvG_val cn) rfl ?_
    have hos := had.at gs.ok cn
    have osn : ∀ o ∈ nbS (es.map (·.2)) c.1, o ∈ ns := fun o ho => cl _ cn o ho
    have osl : (nbS (es.map (·.2)) c.1).length ≤ 2000 := by
      unfold nbS
      rw [(sortS_perm _).length_eq]
      have := nbrF_len (x := c.1) (es := es.map (·.2))
      rw [List.length_map] at this
      have := gs.l3
      omega
    generalize nbS (es.map (·.2)) c.1 = os at *
    refine rd_forL (SqL.of (s _ _ hos)) ?_
    refine turnsL (K := K) (xs := os.map V.str) (fun j σ H' => ∃ (A : Str → Addr) (u9 : Option V), σ = [some (.ref g), some (.ref st), some (.str x), some (.int dir), some (.ref ad), some (.ref D), some (.ref qa), some (.int (i + 1 : Nat)), some (.str c.1), u9] ∧ Same H1 H' ∧
      PathsAt H' D (addsF (slOk f dir) c (os.take j) kp) A ∧ (∀ c2 ∈ addsF (slOk f dir) c (os.take j) kp, H1 (A c2.1) = none ∧ A c2.1 ≠ qa) ∧ H' qa = some (.lst ((keysF (addsF (slOk f dir) c (os.take j) kp)).map V.str))) ⟨A, u9, rfl, s, pa, fr, hq⟩ ?_ ?_ ?_
    · rintro j σ H' hj ⟨A, u9, rfl, s, _⟩
      exact SqL.of (s _ _ hos)
    · rintro j y σ H' hy ⟨A, u9, rfl, s, pa, fr, hq⟩
      obtain ⟨hj, rfl⟩ := map_at hy
      have hom := osn _ (List.getElem_mem hj)
      have tk : addsF (slOk f dir) c (os.take (j + 1)) kp = addF (slOk f dir) c (addsF (slOk f dir) c (os.take j) kp) os[j] := by rw [take_snoc hj, addsF_snoc]
      have len : (addsF (slOk f dir) c (os.take j) kp).length ≤ kp.length + 2000 := by
        have := addsF_len (ok := slOk f dir) (c := c) (os := os.take j) (kp := kp)
        rw [List.length_take] at this
        omega
      have cin : c ∈ addsF (slOk f dir) c (os.take j) kp := by
        obtain ⟨r, hr⟩ := addsF_pre (ok := slOk f dir) (c := c) (os := os.take j) (kp := kp)
        rw [hr]
        exact List.mem_append_left _ cm
      generalize addsF (slOk f dir) c (os.take j) kp = k1 at *
      generalize os[j] = o at *
      wtm_at "rd"
      refine rd_din1 (.inl pa.di) (k := .inr o) rfl ?_
      have skip : (o ∈ keysF k1 ∨ slOk f dir c.1 o = false) → addsF (slOk f dir) c (os.take (j + 1)) kp = k1 := fun h => by
        rw [tk]
        unfold addF
        rw [if_neg]
        rintro ⟨z1, z2⟩
        rcases h with h | h
        · exact z1 h
        · rw [h] at z2
          cases z2
      by_cases mo : o ∈ keysF k1
      · rw [kvG_val mo]
        wtm_at "rd"
        rw [skip (.inl mo)]
        exact ⟨A, _, rfl, s, pa, fr, hq⟩
      · rw [kvG_none mo]
        refine rd_bl ?_
        refine rd_T ?_
        wtm_at "rd"
        refine ⟨st, c.1, o, ord, f, rfl, .inl (s _ _ gs1.st), gs.inO _ cn, gs.inO _ hom, ?_⟩
        wtm_at "rd"
        refine rd_split (fun c1 => ?_) (fun c1 => ?_)
        case refine_2 =>
          wtm_at "rd"
          rw [skip (.inr (decide_eq_false c1))]
          exact ⟨A, _, rfl, s, pa, fr, hq⟩
        have tk2 : addsF (slOk f dir) c (os.take (j + 1)) kp = k1 ++ [(o, c.2 ++ [o])] := by
          rw [tk]
          unfold addF
          exact if_pos ⟨mo, decide_eq_true c1⟩
        rw [tk2]
        wtm_at "rd"
        refine rd_dat (.inl pa.di) (kvG_val (List.mem_map_of_mem cin)) rfl ?_
        wtm_at "rd"
        intro t1 ft1
        have pl1 := pa.li _ cin
        refine rd_catL (at_upd (ne_of_none pl1 ft1) pl1) upd_same (by rw [List.length_map]; simp only [List.length_singleton]; have := gs.l2; omega) ?_
        intro t2 ft2
        have sT := same_add (o := .lst (c.2.map V.str ++ [.str o])) (same_add (o := .lst [.str o]) s ft1) ft2
        have paT := (pa.same (Same.new (o := .lst [.str o]) ft1)).same (Same.new (o := .lst (c.2.map V.str ++ [.str o])) ft2)
        have hqT := at_upd (o := .lst (c.2.map V.str ++ [.str o])) (ne_of_none (at_upd (o := .lst [.str o]) (ne_of_none hq ft1) hq) ft2) (at_upd (o := .lst [.str o]) (ne_of_none hq ft1) hq)
        have nt2 : t2 ≠ qa := Ne.symm (ne_of_none (at_upd (o := .lst [.str o]) (ne_of_none hq ft1) hq) ft2)
        have ft20 := new_of_same (same_add (o := .lst [.str o]) s ft1) ft2
        have ht2 : (upd (upd H' t1 (.lst [.str o])) t2 (.lst (c.2.map V.str ++ [.str o]))) t2 = some (.lst ((c.2 ++ [o]).map V.str)) := by
          rw [upd_same, List.map_append]
          rfl
        generalize upd (upd H' t1 (.lst [.str o])) t2 (.lst (c.2.map V.str ++ [.str o])) = HT at sT paT hqT ht2
        wtm_at "rd"
        refine rd_dset paT.di (k := .inr o) rfl (by rw [List.length_map, List.length_map]; have := gs.l2; omega) ?_
        have pa2 := paT.put mo ht2
        have sU := same_put (o := .dK (putK (kvG (keysF k1) fun n => .ref (A n)) (.inr o) (.ref t2))) sT fD
        have hqU := at_upd (o := .dK (putK (kvG (keysF k1) fun n => .ref (A n)) (.inr o) (.ref t2))) (Ne.symm nDq) hqT
        generalize upd HT D (.dK (putK (kvG (keysF k1) fun n => .ref (A n)) (.inr o) (.ref t2))) = HU at pa2 sU hqU
        wtm_at "rd"
        refine rd_tyL hqU ?_
        wtm_at "rd"
        refine rd_append hqU (by rw [List.length_map, List.length_map]; have := gs.l2; omega) ?_
        have off : ∀ c2 ∈ k1 ++ [(o, c.2 ++ [o])], H1 (updV A o t2 c2.1) = none ∧ updV A o t2 c2.1 ≠ qa := fun c2 hc2 => by
          unfold updV
          rcases List.mem_append.mp hc2 with h | h
          · rw [if_neg (fun z => mo (by rw [← z]; exact List.mem_map_of_mem h))]
            exact fr c2 h
          · rw [List.mem_singleton] at h
            subst h
            rw [if_pos rfl]
            exact ⟨ft20, nt2⟩
        refine ⟨updV A o t2, _, rfl, same_put sU fq1, pa2.off hqU (fun c2 hc2 => (off c2 hc2).2), off, ?_⟩
        rw [upd_same, show keysF (k1 ++ [(o, c.2 ++ [o])]) = keysF k1 ++ [o] from List.map_append, List.map_append]
        rfl
    · rintro σ H' ⟨A, u9, rfl, s, pa, fr, hq⟩
      rw [List.length_map, List.take_length] at pa fr hq
      wtm_at "rd"
      exact ⟨A, _, _, rfl, s, pa, fr, hq⟩
end
end Law

/-! a lambda with parameters and without captured names: entered -/
namespace U
open PySem PySem.Spec PyProof.Rows L2
abbrev lamFn (q : Str) (params : Arguments) (body : Expr) (scope : Scope) (pm : Value) (c' : Addr) (ctv : Value) : FuncData := PySem.W.kla_fn "<lambda>" q params body scope [] pm (.ref c') ctv
theorem run_lam {CX : CXT} {P : Program} {w : World} {K : PySem.W.Frag} {mg : Str → Option Value} {base : Heap} {k : Nat} {f c' : Addr} {q : Str} {params : Arguments} {body : Expr} {scope : Scope} {pm ctv : Value} {N ps : List Str} (S : FnScope N ps scope)
    {A : Around} {outer : List Env} {s : Shared} {H : Hp} {args : Args} {us : List Value} {vs : List V} {Q : VK} {E : XK} (ho : s.heap.get? f = some (PySem.W.kla_obj "<lambda>" q params body scope [] pm c' ctv)) (hc : s.heap.CodeRec (.ref c') q)
    (hr : Room (k + 1) A) (e0 : Env0 P w K mg base A outer s H) (hb : BindsTo s (lamFn q params body scope pm c' ctv) args (ps.zip us)) (r : Vals vs us) (hl : vs.length = ps.length)
    (hbody : Room k (A.deeper (envOfC q scope s.heap.objs.size f (.ref c'))) → ∃ t, PE (cxOf CX P w K mg base N q scope f (.ref c') A outer s H E) body t ∧ t (L2.start N vs) H Q) :
    codeAny (model P w) A (.call (.ref f) args) (CR CX outer P w H s Q E) s := by
  have lim : s.heap.NoLimit := e0.mod.nolimit.keeps fun b o e => (e0.bs b o e).1
  have kinds : ∀ y ∈ ps.zip us, scope.names.lookup y.1 = some .local ∨ (scope.names.lookup y.1 = some .cell ∧ ((cellsFrom (s.heap.objs.size + 1) scope.names []).lookup y.1).isSome = true) := fun y hy => by
    rcases S.par y.1 (List.of_mem_zip (show (y.1, y.2) ∈ ps.zip us from hy)).1 with z | z
    · exact .inl z
    · exact .inr ⟨z, PySem.W.cellsFrom_some _ _ _ (.inl z)⟩
  refine PySem.W.kla_callFunE hr.depth ho rfl S.co S.gen rfl hc (hb _ _ _ _ ?_)
  refine wpAny_newFunctionEnv_cells S.kind kinds fun env he s1 x => ?_
  subst he
  obtain ⟨t, ht, hq⟩ := hbody (hr.deeper _)
  have I : Inv (cxOf CX P w K mg base N q scope f (.ref c') A outer s H E) [] (L2.start N vs) H s1 := inv_start S hr.hd e0 hl r x
  refine ⟨lim.keeps x.toInCall.keep, PySem.W.kla_codeExpr (wpAny_mono (ht.run [] s1 _ H Q I hq) (fun u s' hs => ?_) fun e s' hs => hs)⟩
  obtain ⟨v, H', J, rv, hQ⟩ := hs
  exact ⟨v, H', J.os, J.bare, J.base, J.hok, rv, hQ⟩
end U
namespace U
open PySem PySem.Spec PyProof.Rows L2 PySem.W
def dKey (names : List Str) : PyData := .tuple [.int (names.length : Int), .list (names.map PyData.str)]
theorem alike_strs : ∀ xs ys : List Str, alikeAll (xs.map PyData.str) (ys.map PyData.str) = true
  | [], ys => by cases ys <;> simp [alikeAll]
  | x :: xs, [] => by simp [alikeAll]
  | x :: xs, y :: ys => by
    rw [List.map_cons, List.map_cons, alikeAll, alike_strs xs ys]
    simp [alike]
theorem alike_key (xs ys : List Str) : alike (dKey xs) (dKey ys) = true := by
  unfold dKey
  simp [alike, alikeAll, alike_strs]
theorem depth_key (xs : List Str) : (dKey xs).depth ≤ 3 := by
  have e : ∀ xs : List Str, PyData.depthAll (xs.map PyData.str) = 0 := fun xs => by
    induction xs with
    | nil => simp [PyData.depthAll]
    | cons x r ih => rw [List.map_cons, PyData.depthAll, PyData.depth, ih]; rfl
  unfold dKey
  simp [PyData.depth, PyData.depthAll, e]
theorem reads_strs {h : Heap} : ∀ {xs : List Str} {us : List Value}, Vals (xs.map V.str) us → ∃ as, ReadsAll h us (xs.map PyData.str) as
  | [], _, r => by
    cases r
    exact ⟨_, .nil⟩
  | x :: xs, _, r => by
    cases r with
    | cons r rr =>
      obtain ⟨tk, rfl⟩ := r
      obtain ⟨as, ra⟩ := reads_strs rr
      exact ⟨_, .cons (.str x tk) ra⟩
end U
namespace U
open PySem PySem.Spec PyProof.Rows L2 PySem.W
/-- no more than new things, the callers' frames but for their slots -/
def Jm (X : Cx) (s0 s' : Shared) : Prop := s'.os = s0.os ∧ AllBare s'.gens ∧ Un (frs X.stack) [] (fun _ => none) (fun _ => none) s0.heap s'.heap
def Vm (X : Cx) (av : List Addr) (items : List (Addr × List Str)) (i : Nat) (k : Value) (s' : Shared) : Prop :=
  ∃ (t a : Addr) (names : List Str) (tk : Tok), items[i]? = some (a, names) ∧ k = .ref t ∧ t ∉ av ∧ t ∉ frs X.stack ∧ IsTup s'.heap t #[.int (names.length : Int) tk, .ref a]
/-- the paths stand, known to the object -/
def Hc (H : Hp) (s0 : Shared) (items : List (Addr × List Str)) : Hp := fun b => match H b, s0.heap.get? b with
  | some (.lst xs), some o => if b ∈ items.map (·.1) then some (.frz o (.lst xs)) else none
  | _, _ => none
theorem hc_some {H : Hp} {s0 : Shared} {items : List (Addr × List Str)} {b : Addr} {u : HO} (h : Hc H s0 items b = some u) : ∃ xs o, H b = some (.lst xs) ∧ s0.heap.get? b = some o ∧ u = .frz o (.lst xs) := by
  unfold Hc at h
  split at h
  · rename_i xs o e1 e2
    split at h
    · exact ⟨xs, o, e1, e2, (Option.some.inj h).symm⟩
    · cases h
  · cases h
theorem hc_none {H : Hp} {s0 : Shared} {items : List (Addr × List Str)} {b : Addr} (h : H b = none) : Hc H s0 items b = none := by
  cases e : Hc H s0 items b with
  | none => rfl
  | some u =>
    obtain ⟨xs, o, e1, _⟩ := hc_some e
    rw [h] at e1
    cases e1
theorem hc_new {H : Hp} {s0 : Shared} {items : List (Addr × List Str)} {b : Addr} (h : s0.heap.get? b = none) : Hc H s0 items b = none := by
  cases e : Hc H s0 items b with
  | none => rfl
  | some u =>
    obtain ⟨xs, o, _, e1, _⟩ := hc_some e
    rw [h] at e1
    cases e1
section
variable {X : Cx} {pins : List (Addr × Obj)} {σ : L2.St} {H : Hp} {s0 s : Shared}
theorem Jm.refl (I : Inv X pins σ H s0) : Jm X s0 s0 := ⟨rfl, I.bare, Un.refl⟩
theorem Jm.inv (I : Inv X pins σ H s0) (j : Jm X s0 s) : Inv X pins σ H s := by
  obtain ⟨os, bare, un⟩ := j
  have e0 := I.env0
  have raw : ∀ b u, H b = some u → ∀ o, s0.heap.get? b = some o → s.heap.get? b = some o := fun b u hb o ho => un.keep b o ho rfl (fun z => by rw [e0.frf b z] at hb; cases hb) (by simp)
  refine I.call' (ch := []) os ⟨fun b o e _ h1 h2 => un.keep b o e rfl h1 h2, fun b o e _ h1 h2 => un.slot b o e rfl h1 h2, fun _ _ _ n _ => n, un.there, fun _ _ q => q, fun _ _ _ q => q, fun _ ps q => ⟨#[], by rw [q]; simp⟩⟩ (fun a u e => ?_) bare (fun b hb => absurd hb (by simp))
  refine (I.hok a u e).stay (fun b o hb ho => ?_) (fun _ q => q) fun _ _ q => q
  rcases hb with rfl | hb
  · exact raw _ _ e o ho
  · exact raw _ _ hb o ho
variable {A : Around} {q : Str} {params : Arguments} {body : Expr} {scope : Scope} {pm ctv : Value} {f c' l : Addr} {items : List (Addr × List Str)} {its : List Value} {N : List Str} {p : Str} {tb : TE} {k : Nat}
theorem in1_room (h : Room (k + 2) A) : Room (k + 1) A.in1 := by
  have a := h.dp
  have b := h.un
  refine ⟨h.hd, ?_, ?_⟩
  · have : A.in1.depth = A.depth := rfl
    omega
  · have : A.in1.units = A.units + 1 := rfl
    omega
theorem fr_old (I : Inv X pins σ H s0) {b : Addr} (hb : b ∈ frs X.stack) : ∃ o, s0.heap.get? b = some o := by
  obtain ⟨_, o, ho, _⟩ := I.env0.funs.mem hb
  exact ⟨o, ho⟩
theorem env_c (I : Inv X pins σ H s0) (j : Jm X s0 s) : Env0 X.prog X.w X.K X.mg X.base X.A.in1 X.stack s (Hc H s0 items) := by
  have e := (j.inv I).env0
  refine ⟨e.frames, e.mod, fun b o h => ⟨(e.bs b o h).1, hc_none (e.bs b o h).2⟩, e.bsz, e.funs, fun b hb => hc_none (e.frf b hb), fun a u h => ?_, e.bare⟩
  obtain ⟨xs, o, h1, h2, rfl⟩ := hc_some h
  have k := e.hok a _ h1
  exact ⟨j.2.2.keep a o h2 rfl (fun z => by rw [e.frf a z] at h1; cases h1) (by simp), k⟩
/-- what the call of the lambda keeps -/
theorem lam_kept (I : Inv X pins σ H s0) (j : Jm X s0 s) {s' : Shared} {H' : Hp} (un : Un (frs X.stack) [] (Hc H s0 items) H' s.heap s'.heap) (hok : HOk X.prog X.w H' s'.heap) {b : Addr} {o : Obj} (ho : s.heap.get? b = some o) (hb : b ∉ frs X.stack) : s'.heap.get? b = some o := by
  cases e : Hc H s0 items b with
  | none => exact un.keep b o ho e hb (by simp)
  | some u =>
    obtain ⟨xs, o2, h1, h2, rfl⟩ := hc_some e
    have k1 := (show s.heap.get? b = some o2 ∧ _ from (env_c (items := items) I j).hok b _ e).1
    rw [ho] at k1
    obtain rfl := Option.some.inj k1
    exact (show s'.heap.get? b = some o ∧ _ from hok b _ (un.frzs b _ _ e)).1
def nmAt (items : List (Addr × List Str)) (i : Nat) : List Str := (items[i]?.map (·.2)).getD []
theorem nm_at {items : List (Addr × List Str)} {i : Nat} {a : Addr} {names : List Str} (h : items[i]? = some (a, names)) : nmAt items i = names := by
  unfold nmAt
  rw [h]
  rfl
theorem vals_at {items : List (Addr × List Str)} {its : List Value} (r : Vals (items.map fun i => V.ref i.1) its) {i : Nat} {v : Value} (h : its.toArray[i]? = some v) : ∃ a names, items[i]? = some (a, names) ∧ v = .ref a := by
  have h2 : its[i]? = some v := by simpa using h
  have hi : i < its.length := (List.getElem?_eq_some_iff.mp h2).1
  have hi2 : i < items.length := by
    have := r.length
    rw [List.length_map] at this
    omega
  obtain ⟨u, e1, e2⟩ := r.get (i := i) (x := .ref items[i].1) (by rw [List.getElem?_map, List.getElem?_eq_getElem hi2]; rfl)
  rw [h2] at e1
  exact ⟨items[i].1, items[i].2, List.getElem?_eq_getElem hi2, (Option.some.inj e1).trans e2⟩
theorem reads_key (I : Inv X pins σ H s0) (j : Jm X s0 s) {t a : Addr} {names : List Str} {tk : Tok} (ha : H a = some (.lst (names.map V.str))) (ht : IsTup s.heap t #[.int (names.length : Int) tk, .ref a]) : ∃ as, Reads s.heap (.ref t) (dKey names) as := by
  obtain ⟨_, us, n, r, e⟩ := (j.inv I).hok a _ ha
  obtain ⟨as, ra⟩ := reads_strs r
  obtain ⟨o, h1, h2, m, h3⟩ := ht
  have ra2 : ReadsAll s.heap us.toArray.toList (names.map PyData.str) as := by simpa using ra
  exact ⟨_, Reads.tuple h1 h2 h3 (.cons (.int _ tk) (.cons (Reads.list e rfl rfl ra2) .nil))⟩
theorem key_run (I : Inv X pins σ H s0) (hr : Room (k + 2) X.A) (S : FnScope N [p] scope) (hitem : ∀ i ∈ items, H i.1 = some (.lst (i.2.map V.str))) (hlv : Vals (items.map fun i => V.ref i.1) its) (hl : s0.heap.IsList l its.toArray) (hlf : l ∉ frs X.stack)
    (hf : s0.heap.get? f = some (PySem.W.kla_obj "<lambda>" q params body scope [] pm c' ctv)) (hff : f ∉ frs X.stack) (hcd : s0.heap.CodeRec (.ref c') q) (hcf : c' ∉ frs X.stack)
    (hbind : ∀ (s : Shared) (u : Value), BindsTo s (lamFn q params body scope pm c' ctv) ⟨[u], []⟩ [(p, u)])
    (hbody : ∀ (A : Around) (outer : List Env) (s : Shared) (H : Hp) (E : XK), Room k (A.deeper (envOfC q scope s.heap.objs.size f (.ref c'))) → PE (cxOf (fun _ _ _ _ _ _ => False) X.prog X.w X.K X.mg X.base N q scope f (.ref c') A outer s H E) body tb)
    (htb : ∀ (a : Addr) (names : List Str) (o : Obj) (H : Hp) (Q : VK), H a = some (.frz o (.lst (names.map V.str))) → (∀ t H', H t = none → H' t = some (.tup [.int (names.length : Int), .ref a]) → Q (.ref t) H') → tb (L2.start N [.ref a]) H Q)
    {s2 : Shared} (es : s2.heap.objs.size = s0.heap.objs.size + 1) :
    KeyRun X.prog X.w X.A.in1 (.ref f) .Lt s2.heap.objs.size [s0.heap.objs.size] (fun a b => b = a) its.toArray.size (fun i v => its.toArray[i]? = some v) (fun i s' => s'.heap.IsListIter s0.heap.objs.size l i ∧ s'.heap.IsList l its.toArray)
      (Jm X s0) (Vm X [s2.heap.objs.size, s0.heap.objs.size] items) (fun i j => dataLt (dKey (nmAt items i)) (dKey (nmAt items j))) := by
  have old : ∀ b o, s0.heap.get? b = some o → b ∉ s2.heap.objs.size :: [s0.heap.objs.size] := fun b o h z => by
    have lt := Heap.lt_size h
    rcases List.mem_cons.mp z with z | z
    · rw [z, es] at lt
      exact Nat.lt_irrefl _ (Nat.lt_of_succ_lt lt)
    · rw [List.mem_singleton] at z
      rw [z] at lt
      exact Nat.lt_irrefl _ lt
  have frl : ∀ b, b ∈ frs X.stack → b < s0.heap.objs.size := fun b hb => by
    obtain ⟨o, ho⟩ := fr_old I hb
    exact Heap.lt_size ho
  have nI : s0.heap.objs.size ∉ frs X.stack := fun z => Nat.lt_irrefl _ (frl _ z)
  have nS : s2.heap.objs.size ∉ frs X.stack := fun z => by
    have := frl _ z
    rw [es] at this
    exact Nat.lt_irrefl _ (Nat.lt_of_succ_lt this)
  have new : ∀ b, s0.heap.objs.size ≤ b → s0.heap.get? b = none := fun b hb => Heap.get?_none_of_le hb
  refine ⟨fun s s' j m => ?_, fun i v s s' hv m => ?_, ?_, ?_⟩
  · obtain ⟨j1, j2, un⟩ := j
    refine ⟨m.os.trans j1, by rw [show s'.gens = s.gens from m.gens]; exact j2, ⟨fun b o h _ hb hx => m.heap b o (old b o h) (un.keep b o h rfl hb hx), fun b o h _ hb hx => ?_, fun _ _ _ _ _ => rfl, fun b o h hx => ?_, (fun _ _ z => nomatch z), (fun _ _ _ z => nomatch z), (fun _ _ z => nomatch z)⟩⟩
    · obtain ⟨sl, h2⟩ := un.slot b o h rfl hb hx
      exact ⟨sl, m.heap b _ (old b o h) h2⟩
    · obtain ⟨o2, h2⟩ := un.there b o h hx
      exact ⟨o2, m.heap b _ (old b o h) h2⟩
  · obtain ⟨t, a, names, tk, h1, h2, h3, h4, o, h5, h6⟩ := hv
    exact ⟨t, a, names, tk, h1, h2, h3, h4, o, m.heap t o h3 h5, h6⟩
  · intro i v s o Q E hi hP j st hS hk
    obtain ⟨a, names, hit, rfl⟩ := vals_at hlv hP
    have ha := hitem _ (List.mem_of_getElem? hit)
    have jI := j.inv I
    obtain ⟨oa, hoa⟩ : ∃ o, s0.heap.get? a = some o := by
      obtain ⟨_, _, _, _, e⟩ := I.hok a _ ha
      exact ⟨_, e⟩
    have hca : Hc H s0 items a = some (.frz oa (.lst (names.map V.str))) := by
      unfold Hc
      rw [ha, hoa]
      exact if_pos (List.mem_map_of_mem (f := (·.1)) (List.mem_of_getElem? hit))
    have hf' := j.2.2.keep f _ hf rfl hff (by simp)
    have hcd' : s.heap.CodeRec (.ref c') q := by
      obtain ⟨c2, oc, vs, t, e1, e2, e3, e4⟩ := hcd
      obtain rfl := Value.ref.inj e1
      exact ⟨c', oc, vs, t, rfl, j.2.2.keep c' _ e2 rfl hcf (by simp), e3, e4⟩
    have rc : codeAny (model X.prog X.w) X.A.in1 (.call (.ref f) ⟨[.ref a], []⟩) (CR (fun _ _ _ _ _ _ => False) X.stack X.prog X.w (Hc H s0 items) s (fun v H' => ∃ t, v = .ref t ∧ Hc H s0 items t = none ∧ H' t = some (.tup [.int (names.length : Int), .ref a])) (fun _ _ _ => False)) s := by
      refine run_lam (N := N) (ps := [p]) (us := [.ref a]) (vs := [.ref a]) S hf' hcd' (in1_room hr) (env_c I j) (hbind s _) (.cons rfl .nil) rfl fun hr' => ⟨tb, hbody _ _ _ _ _ hr', ?_⟩
      exact htb a names oa _ _ hca fun t H' h1 h2 => ⟨t, rfl, h1, h2⟩
    refine wpAny_call (codeAny_mono rc fun r s' hq => ?_)
    cases r with
    | error e => exact False.elim hq
    | ok fl =>
      cases fl with
      | next => exact False.elim hq
      | brk => exact False.elim hq
      | cont => exact False.elim hq
      | ret u =>
        obtain ⟨v, H', os, bare, un, hok, rv, t, rfl, hn, ht⟩ := hq
        obtain rfl : u = Value.ref t := rv
        have kp : ∀ {b o}, s.heap.get? b = some o → b ∉ frs X.stack → s'.heap.get? b = some o := fun {b o} h1 h2 => lam_kept I j un hok h1 h2
        have free : ∀ b o, s.heap.get? b = some o → Hc H s0 items b = none → b ≠ t := fun b o h1 h2 z => by
          have := un.free b o h1 h2 (by simp)
          rw [z, ht] at this
          cases this
        have hI : ∃ oi, s.heap.get? s0.heap.objs.size = some oi := by
          obtain ⟨oi, e, _⟩ := st.1
          exact ⟨oi, e⟩
        obtain ⟨oi, hoi⟩ := hI
        refine hk (.ref t) s' ⟨os.trans j.1, bare, ⟨fun b o h _ hb hx => kp (j.2.2.keep b o h rfl hb hx) hb, fun b o h _ hb hx => ?_, fun _ _ _ _ _ => rfl, fun b o h hx => ?_, (fun _ _ z => nomatch z), (fun _ _ _ z => nomatch z), (fun _ _ z => nomatch z)⟩⟩ ⟨?_, ?_⟩ (kp hS nS) ⟨t, a, names, ?_⟩ fun j2 k2 hv => ?_
        · obtain ⟨sl, h2⟩ := j.2.2.slot b o h rfl hb hx
          obtain ⟨sl2, h3⟩ := un.slot b _ h2 ((env_c (items := items) I j).frf b hb) hb hx
          exact ⟨sl2, h3⟩
        · obtain ⟨o2, h2⟩ := j.2.2.there b o h hx
          exact un.there b o2 h2 hx
        · obtain ⟨o2, e1, e2⟩ := st.1
          exact ⟨o2, kp e1 nI, e2⟩
        · obtain ⟨o2, e1, e2⟩ := st.2
          exact ⟨o2, kp e1 hlf, e2⟩
        · obtain ⟨_, us, r, o2, e1, e2⟩ := hok t _ ht
          cases r with
          | cons r1 rr =>
            cases rr with
            | cons r2 rr =>
              cases rr
              obtain ⟨tk, rfl⟩ := r1
              obtain rfl := r2
              refine ⟨tk, hit, rfl, fun z => ?_, fun z => ?_, o2, e1, e2⟩
              · rcases List.mem_cons.mp z with z | z
                · exact free _ _ hS (hc_new (new _ (by rw [es]; exact Nat.le_succ _))) z.symm
                · exact free _ _ hoi (hc_new (new _ (Nat.le_refl _))) (List.mem_singleton.mp z).symm
              · obtain ⟨o3, h3⟩ := fr_old jI z
                exact free t _ h3 ((env_c (items := items) I j).frf t z) rfl
        · obtain ⟨t2, a2, n2, tk2, h1, h2, h3, h4, o2, h5, h6⟩ := hv
          exact ⟨t2, a2, n2, tk2, h1, h2, h3, h4, o2, kp h5 h4, h6⟩
  · intro i j ki kj s Q E hj h1 h2 hq
    obtain ⟨t, a, n1, tk, e1, rfl, _, _, e2⟩ := h1
    obtain ⟨t2, a2, n2, tk2, f1, rfl, _, _, f2⟩ := h2
    obtain ⟨as, r1⟩ := reads_key I hj (hitem _ (List.mem_of_getElem? e1)) e2
    obtain ⟨bs, r2⟩ := reads_key I hj (hitem _ (List.mem_of_getElem? f1)) f2
    have hq : Q (.bool (dataLt (dKey (nmAt items i)) (dKey (nmAt items j)))) s := hq
    rw [nm_at e1, nm_at f1] at hq
    refine rcLt_alike (dKey n1) (dKey n2) X.A.in1 s (.ref t) (.ref t2) as bs r1 r2 (alike_key _ _) (fun z => by unfold dKey at z; cases z) ?_ X.prog X.w E Q hq
    have d := depth_key n1
    have u := hr.un
    have : X.A.in1.units = X.A.units + 1 := rfl
    have := Nat.min_le_left (dKey n1).depth (dKey n2).depth
    omega
end
end U
namespace U
open PySem PySem.Spec PyProof.Rows L2 PySem.W LamX
def tMinK (T : List (Addr × Str)) (te : TA) : TE := fun σ H Q => te σ H fun vs H1 => Tabs T H1 ∧ ∃ (l : Addr) (items : List (Addr × List Str)), vs = [.ref l] ∧ H1 l = some (.lst (items.map fun i => V.ref i.1)) ∧ (∀ i ∈ items, H1 i.1 = some (.lst (i.2.map V.str))) ∧
  ∀ H2, ExtN H1 H2 → Tabs T H2 → (items = [] → Q .non H2) ∧ ∀ i ∈ items, Q (.ref i.1) H2
theorem pe_minK {X : Cx} {T : List (Addr × Str)} {c P : Addr} {params : Arguments} {body : Expr} {scope : Scope} {N : List Str} {p : Str} {tb : TE} {k j : Nat} {e : Expr} {te : TA} {pm lpos kp1 kp2 cpos pos : Pos}
    (hc : X.calm = true) (hg : Gl X "min") (hm : X.mg "min" = none) (ha : PA X [e] te) (TB : TabB X.base X.mg c P) (hcode : X.env.code = .ref c) (hmT : (P, X.env.qual ++ "<lambda>") ∈ T) (huT : ∀ y ∈ T, y.1 = P → y.2 = X.env.qual ++ "<lambda>")
    (hdef : defaultsOf params X.env = ([], [])) (hfree : ∀ y ∈ scope.names, y.2 = .free → ∃ c, X.env.cells.lookup y.1 = some c) (hcl : cloFrom X.env.cells scope.names [] = [])
    (hr : Room (k + 2) X.A) (S : FnScope N [p] scope)
    (hbind : ∀ (s : Shared) (u pm ctv : Value) (c' : Addr), BindsTo s (lamFn (X.env.qual ++ "<lambda>") params body scope pm c' ctv) ⟨[u], []⟩ [(p, u)])
    (hbody : ∀ (A : Around) (outer : List Env) (s : Shared) (H : Hp) (E : XK) (f c' : Addr), Room k (A.deeper (envOfC (X.env.qual ++ "<lambda>") scope s.heap.objs.size f (.ref c'))) → PE (cxOf (fun _ _ _ _ _ _ => False) X.prog X.w X.K X.mg X.base N (X.env.qual ++ "<lambda>") scope f (.ref c') A outer s H E) body tb)
    (htb : ∀ (a : Addr) (names : List Str) (o : Obj) (H : Hp) (Q : VK), H a = some (.frz o (.lst (names.map V.str))) → (∀ t H', H t = none → H' t = some (.tup [.int (names.length : Int), .ref a]) → Q (.ref t) H') → tb (L2.start N [.ref a]) H Q)
    (hst : starEach [e] X.env = (false, eval e X.env) :: starEach [] X.env := by rfl) :
    PE X (.Call (.Name "min" pm) [e] [⟨some "key", .Lambda params body scope lpos, kp1⟩, ⟨some "default", .Constant .none j cpos, kp2⟩] pos) (tMinK T te) := by
  refine ⟨fun pins s σ H Q I h => ?_⟩
  refine wpAny_Call_Name_kw (ld_blt (u := .builtin "min") I hg hm (by decide +kernel) ?_)
  refine PyProof.Rows.callWith_kw (thn (ha.run pos pins s σ H _ I h) fun us s1 ⟨vs, H1, I1, r1, hT, l, items, ev, hl, hit, q⟩ => ?_) (by rw [hst]; rfl) (by rw [hst]; rfl)
  subst ev
  obtain ⟨u, rfl, ru⟩ := r1.one
  obtain rfl : u = Value.ref l := ru
  show wpAny _ _ (evalAll [(do let v ← eval (.Lambda params body scope lpos) X.env; standAt pos; pure v), (do let v ← eval (.Constant .none j cpos) X.env; standAt pos; pure v)]) _ _ s1
  refine wpAny_evalAll_cons (wpAny_bind (lam_make2 I1 TB hcode hmT huT hT hdef hfree fun f c' pm' ctv H2 s2 I2 eN T2 hf hfn hfr hco => wpAny_bind (wpAny_standAt (wpAny_pure ?_))))
  refine wpAny_evalAll_cons (wpAny_bind (show wpAny _ _ (eval (.Constant .none j cpos) X.env) _ _ s2 from wpAny_pure (wpAny_bind (wpAny_standAt (wpAny_pure (wpAny_evalAll_nil ?_))))))
  show wpAny _ _ (call (.builtin "min") [.ref l] [(Str.ofString "key", .ref f), (Str.ofString "default", .none)]) _ _ s2
  have nt : ∀ (xs : List V) (ps : Array Value), HO.lst xs ≠ .tbl ps := fun _ _ z => nomatch z
  have hl2 := eN _ _ hl (nt _)
  have hit2 : ∀ i ∈ items, H2 i.1 = some (.lst (i.2.map V.str)) := fun i hi => eN _ _ (hit i hi) (nt _)
  have frf := I2.env0.frf
  obtain ⟨_, its, n, rv, el⟩ := I2.hok l _ hl2
  obtain ⟨⟨oc, cvs, ct, d1, d2, d3⟩, _, _⟩ := I2.hok c' _ hco
  rw [hcl] at hf
  obtain ⟨q0, q1⟩ := q H2 eN T2
  have hlen : items.length = its.length := by
    have := rv.length
    rw [List.length_map] at this
    exact this
  refine PySem.call_min_walkKD (iter_listW (A := X.A.in1) (I2.ok.hd hc) ⟨_, el, rfl, n, rfl⟩ fun s3 e3 W st hfp hw hk => ?_)
  have es : s3.heap.objs.size = s2.heap.objs.size + 1 := by
    rw [e3]
    exact Heap.size_push _ _
  refine ⟨_, _, _, _, _, _, _, _, _, _, rfl, W, st, hfp, key_run I2 hr S hit2 rv ⟨_, el, rfl, n, rfl⟩ (fun z => by rw [frf _ z] at hl2; cases hl2) hf hfr ⟨c', oc, cvs, ct, rfl, d1, d2, d3⟩ (fun z => by rw [frf _ z] at hco; cases hco) (fun s u => hbind s u _ _ _) (fun A outer s H E hr => hbody A outer s H E f c' hr) htb es, ?_, ?_, ?_⟩
  · refine ⟨by rw [e3], by rw [e3]; exact I2.bare, ?_⟩
    exact Un.kept hk
  · intro hn s' hj
    refine ⟨.non, H2, hj.inv I2, rfl, q0 ?_⟩
    have : its.length = 0 := by simpa using hn
    exact List.eq_nil_of_length_eq_zero (by omega)
  · intro hn v s' hP hj
    obtain ⟨a, names, e1, rfl⟩ := vals_at rv hP
    exact ⟨.ref a, H2, hj.inv I2, rfl, q1 _ (List.mem_of_getElem? e1)⟩
end U

/-! a def whose code object is known (its table of lambdas is tracked) -/
namespace U
open PySem PySem.Spec PyProof.Rows L2 LamX
structure FunC (K : PySem.W.Frag) (x qual : Str) (st : Stmt) (f : Addr) (fd : FuncData) (c : Addr) : Prop where
  ex : ∃ (oc : Value) (od : Option Addr) (kV doc pm : Value) (an : Option Addr) (ct : Value) (osl : Array (Option Value)),
    fd = PySem.W.fnOf x qual (defArgs st) (defBody st) (defScope st) .none kV doc pm an (.ref c) ct ∧ K.lookup f = some ⟨oc, od, .func fd, osl⟩ ∧ PySem.W.codeIn K (.ref c) qual = true
section
variable {P : Program} {w : World} {K : PySem.W.Frag} {mg : Str → Option Value} {base : Heap}
theorem fnG0C {x qual : Str} {st : Stmt} {f c : Addr} {fd : FuncData} {N ps : List Str} {k : Nat} {sp : Sp} (F : FunC K x qual st f fd c) (S : FnScope N ps (defScope st)) (len : ∀ vs H Q E, sp vs H Q E → vs.length = ps.length)
    (body : ∀ (A : Around) (outer : List Env) (s : Shared) (H : Hp) (vs : List V) (Q : VK) (E : XK), Rm k (A.deeper (envOfC qual (defScope st) s.heap.objs.size f (.ref c))) → sp vs H Q E →
      ∃ t, PSs (cxOf CX0 P w K mg base N qual (defScope st) f (.ref c) A outer s H E).nox (defBody st) t ∧ t { nx := fun _ H' => Q .non H', rt := Q } (start N vs) H) :
    FnG P w K mg base CX0 (k + 1) f fd ps sp := by
  obtain ⟨oc, od, kV, doc, pm, an, ct, osl, rfl, lk, hcd⟩ := F.ex
  refine ⟨len, fun A outer s H args us vs Q E room e0 bd rel want => ?_⟩
  have count := len _ _ _ _ want
  have kin : K.In s.heap := e0.mod.kin.keeps fun b o e => (e0.bs b o e).1
  have kinds : ∀ y ∈ ps.zip us, (defScope st).names.lookup y.1 = some .local ∨ ((defScope st).names.lookup y.1 = some .cell ∧ ((cellsFrom (s.heap.objs.size + 1) (defScope st).names []).lookup y.1).isSome = true) := by
    rintro ⟨n, v⟩ hy
    cases S.par n (List.of_mem_zip hy).1 with
    | inl q => exact .inl q
    | inr q => exact .inr ⟨q, PySem.W.cellsFrom_some _ _ _ (.inl q)⟩
  apply codeAny_call_function room.r.depth (kin _ _ lk) rfl S.co S.gen rfl (PySem.W.codeRec_of kin hcd) (bd _ _ _ _ _)
  apply wpAny_newFunctionEnv_cells S.kind kinds
  intro env he s1 x
  subst he
  have lim : s.heap.NoLimit := e0.mod.nolimit.keeps fun b o e => (e0.bs b o e).1
  refine ⟨lim.keeps x.toInCall.keep, codeAny_func ?_⟩
  obtain ⟨t, ht0, want'⟩ := body A outer s H vs Q E (room.deeper _) want
  have ht := ht0.nox
  have I := inv_start (CX := CX0) (P := P) (w := w) (K := K) (mg := mg) (base := base) (E := E) S room.r.hd e0 count rel x
  refine wpAny_mono (ht.run [] s1 (start N vs) H _ I want') ?_ fun e s' hs => hs
  intro fl s' hs
  cases fl with
  | ret u =>
    obtain ⟨v, σ', H', J, rv, q⟩ := hs
    exact ⟨v, H', J.os, J.bare, J.base, J.hok, rv, q⟩
  | next =>
    obtain ⟨σ', H', J, q⟩ := hs
    exact ⟨V.non, H', J.os, J.bare, J.base, J.hok, rfl, q⟩
  | brk => exact hs.elim fun _ z => z.elim fun _ z => z.2.elim
  | cont => exact hs.elim fun _ z => z.elim fun _ z => z.2.elim
end
end U


/-! smallest_path -/
namespace Law
open PySem PySem.Spec PyProof.Rows L2 U LamX


theorem rd_minK {T : List (Addr × Str)} {te : TA} {σ : L2.St} {H : Hp} {Q : VK} (h : te σ H fun vs H1 => Tabs T H1 ∧ ∃ (l : Addr) (items : List (Addr × List Str)), vs = [.ref l] ∧ H1 l = some (.lst (items.map fun i => V.ref i.1)) ∧ (∀ i ∈ items, H1 i.1 = some (.lst (i.2.map V.str))) ∧
  ∀ H2, ExtN H1 H2 → Tabs T H2 → (items = [] → Q .non H2) ∧ ∀ i ∈ items, Q (.ref i.1) H2) : tMinK T te σ H Q := h
def spSmall (T : List (Addr × Str)) : Sp := fun vs H Q _ => ∃ (l : Addr) (items : List (Addr × List Str)), vs = [.ref l] ∧ Tabs T H ∧ H l = some (.lst (items.map fun i => V.ref i.1)) ∧ (∀ i ∈ items, H i.1 = some (.lst (i.2.map V.str))) ∧
  ∀ (v : V) (H' : Hp), ExtN H H' → Tabs T H' → (v = .non ↔ items = []) → (v = .non ∨ ∃ i ∈ items, v = .ref i.1) → Q v H'
/-- the lambda's text -/
def lamScope : Scope := { kind := .function, names := [("path", .local), ("len", .globalImplicit)], isGenerator := false, isCoroutine := false }
abbrev lamBody : Expr := .Tuple [.Call (.Name "len" ⟨78, 40, 78, 43⟩) [.Name "path" ⟨78, 44, 78, 48⟩] [] ⟨78, 40, 78, 49⟩, .Name "path" ⟨78, 51, 78, 55⟩] 0 ⟨78, 39, 78, 56⟩
theorem lamS : FnScope ["path"] ["path"] lamScope := ⟨rfl, rfl, rfl, by decide +kernel, rfl, by decide +kernel, by decide +kernel⟩
section
variable {P : Program} {w : World} {K : PySem.W.Frag} {mg : Str → Option Value} {base : Heap}
theorem ok_small {f : Addr} {fd : FuncData} {c Pt : Addr} {T : List (Addr × Str)} (F : FunC K "smallest_path" "smallest_path" s_smallest_path f fd c) (hmin : mg "min" = none) (hlen : mg "len" = none) (TB : TabB base mg c Pt) (hT : (Pt, ("smallest_path" : Str) ++ ".<locals>." ++ "<lambda>") ∈ T) (hu : ∀ y ∈ T, y.1 = Pt → y.2 = ("smallest_path" : Str) ++ ".<locals>." ++ "<lambda>") : FnG P w K mg base CX0 3 f fd ["paths"] (spSmall T) := by
  refine fnG0C F sc_smallest_path (fun vs H Q E h => ?_) (fun A outer s H vs Q E hr h => ?_)
  · obtain ⟨l, items, rfl, _⟩ := h
    rfl
  · obtain ⟨l, items, rfl, hTab, hl, hit, q⟩ := h
    have nd := sc_smallest_path.nd
    have nd1 : ([("path" : Str)] : List Str).Nodup := by decide
    have body : ∀ (A : Around) (outer : List Env) (s : Shared) (H : Hp) (E : XK) (f c' : Addr), Room 0 (A.deeper (envOfC (("smallest_path" : Str) ++ ".<locals>." ++ "<lambda>") lamScope s.heap.objs.size f (.ref c'))) →
        PE (cxOf (fun _ _ _ _ _ _ => False) P w K mg base ["path"] (("smallest_path" : Str) ++ ".<locals>." ++ "<lambda>") lamScope f (.ref c') A outer s H E) lamBody (tTup (tCons (tCB (rLenU K) (tCons (tVar 0) tNil)) (tCons (tVar 0) tNil))) := fun A outer s H E f c' hr2 => by
      have nd := nd1
      exact pe_tup (pa_cons (pe_callB (kLen K rfl) (by rfl) hlen bb_len (pa_cons (pv 0) pa_nil)) (pa_cons (pv 0) pa_nil))
    refine ⟨_, pss_one (ps_ret (pe_minK (T := T) (c := c) (P := Pt) (k := 0) (N := ["path"]) (p := "path") rfl rfl hmin (pa_cons (pv 0) pa_nil) TB rfl hT hu rfl (fun y hy e => ?_) rfl (hr.r.mono (by decide)) lamS (fun s u pm ctv c' => .of_eq rfl) body ?_)), ?_⟩
    · have : ∀ y ∈ lamScope.names, y.2 ≠ .free := by decide
      exact absurd e (this y hy)
    · intro a names o H' Q' ha hq
      wtm_at "rd"
      refine rd_lenL (K := K) (xs := names.map V.str) (.inl (.inr ⟨o, ha⟩)) ?_
      rw [List.length_map]
      wtm_at "rd"
      intro t ft
      exact hq t _ ft upd_same
    · wtm_at "rd"
      refine rd_minK ?_
      wtm_at "rd"
      refine ⟨hTab, l, items, rfl, hl, hit, fun H2 e2 t2 => ⟨fun e => ?_, fun i hi => ?_⟩⟩
      · exact q .non H2 e2 t2 ⟨fun _ => e, fun _ => rfl⟩ (.inl rfl)
      · exact q (.ref i.1) H2 e2 t2 ⟨(fun z => nomatch z), (fun z => by rw [z] at hi; cases hi)⟩ (.inr ⟨i, hi, rfl⟩)
end
end Law


/-! cycle_at, cycle_nodes, find_anchors -/
namespace Law
open PySem PySem.Spec PyProof.Rows L2 U LamX


theorem ExtN.li {H H' : Hp} (e : ExtN H H') {a : Addr} {xs : List V} (h : H a = some (.lst xs)) : H' a = some (.lst xs) := e _ _ h fun _ z => nomatch z
theorem ExtN.tu {H H' : Hp} (e : ExtN H H') {a : Addr} {xs : List V} (h : H a = some (.tup xs)) : H' a = some (.tup xs) := e _ _ h fun _ z => nomatch z
theorem ExtN.dk {H H' : Hp} (e : ExtN H H') {a : Addr} {xs : List (Key × V)} (h : H a = some (.dK xs)) : H' a = some (.dK xs) := e _ _ h fun _ z => nomatch z
theorem GSt.ext {H H' : Hp} {g n e st : Addr} {ns ord : List Str} {es : List (Addr × Str × Str)} {f : Str → Int} (h : GSt H g n e st ns ord es f) (x : ExtN H H') : GSt H' g n e st ns ord es f :=
  ⟨⟨ExtN.tu x h.gr.top, ExtN.tu x h.gr.nodes, ExtN.tu x h.gr.edges, fun y hy => ExtN.tu x (h.gr.pairs y hy)⟩, h.ok, h.pm, h.l2, h.l3, ExtN.dk x h.st, h.tri, h.pro⟩
def spCycAt (T : List (Addr × Str)) : Sp := fun vs H Q _ => ∃ (g n e st : Addr) (x : Str) (ns ord : List Str) (es : List (Addr × Str × Str)) (f : Str → Int), vs = [.ref g, .ref st, .str x] ∧ GSt H g n e st ns ord es f ∧ x ∈ ns ∧ Tabs T H ∧
  ∀ (v : V) (H' : Hp), ExtN H H' → Tabs T H' → (v = .non ↔ ¬ Cyc (es.map (·.2)) f x) → (v = .non ∨ ∃ a c, v = .ref a ∧ H' a = some (.lst (c.map V.str)) ∧ CycL ns (es.map (·.2)) f x c) → Q v H'
section
variable {P : Program} {w : World} {K : PySem.W.Frag} {mg : Str → Option Value} {base : Heap}
structure Y6c (P : Program) (w : World) (K : PySem.W.Frag) (mg : Str → Option Value) (base : Heap) (T : List (Addr × Str)) : Prop where
  adjacency : Cal P w K mg base CX0 1 "adjacency" spAdj
  slope : Cal P w K mg base CX0 1 "slope" spSlope
  sloped_paths : Cal P w K mg base CX0 2 "sloped_paths" spSloped
  smallest_path : Cal P w K mg base CX0 3 "smallest_path" (spSmall T)
  UP : ∃ u, mg "UP" = some u ∧ RelV (.int 1) u
theorem ok_cycle_at {f : Addr} {fd : FuncData} {T : List (Addr × Str)} (F : Fun K "cycle_at" "cycle_at" s_cycle_at f fd) (B : Bt mg) (C : Y6c P w K mg base T) : FnG P w K mg base CX0 4 f fd ["graph", "state", "node"] (spCycAt T) := by
  refine fnG0 F sc_cycle_at (fun vs H Q E h => ?_) (fun cdv A outer s H vs Q E hr h => ?_)
  · obtain ⟨g, n, e, st, x, ns, ord, es, f, rfl, _⟩ := h
    rfl
  · obtain ⟨g, n, e, st, x, ns, ord, es, f, rfl, gs, hx, tabs, q⟩ := h
    have nd := sc_cycle_at.nd
    have hu := hr.u1
    refine ⟨_, (pss_cons (ps_set (i := 3) nd rfl (by first | exact Or.inl rfl | exact Or.inr rfl) (pe_c C.sloped_paths hr (by decide) rfl (pa_cons (pv 0) (pa_cons (pv 1) (pa_cons (pv 2) (pa_cons (pe_gl rfl C.UP) pa_nil))))))
  (pss_cons (ps_setLc (i := 4) (own := [("one", 5)]) rfl nd rfl rfl (sw_true rfl rfl rfl (by decide +kernel)) (ki_list K rfl (pe_dget hu (pe_c C.adjacency hr (by decide) rfl (pa_cons (pv 0) pa_nil)) (pv 2) (fun _ _ => rfl))) (blkOk_by (own := [("one", 5)]) (N := nN_cycle_at) (sc := defScope s_cycle_at) (by decide +kernel)) (fun _ _ _ _ _ => (pg_name (i := 5) nd rfl (by first | exact Or.inl rfl | exact Or.inr rfl))) (fun _ _ _ _ _ => (pts_one (PW.pt (pw_and (pt_cmp (pc_din hu (pv 5) (pv 3))) (pw_and1 (pt_cmpR (kEq K rfl hr.u64) (pe_c C.slope hr (by decide) rfl (pa_cons (pv 1) (pa_cons (pv 5) (pa_cons (pv 2) pa_nil)))) (pe_gl rfl C.UP) (nomark _))))))) (fun _ _ _ _ _ => (pv 5)))
  (pss_one (ps_ret (pe_c C.smallest_path hr (by decide) rfl (pa_cons (pe_lc (own := [("one", 5)]) rfl nd (ki_list K rfl (pv 4)) (blkOk_by (own := [("one", 5)]) (N := nN_cycle_at) (sc := defScope s_cycle_at) (by decide +kernel)) (fun _ _ _ _ _ => (pg_name (i := 5) nd rfl (by first | exact Or.inl rfl | exact Or.inr rfl))) (fun _ _ _ _ _ => pts_nil) (fun _ _ _ _ _ => (pe_op (kAdd K rfl) (pe_dget hu (pv 3) (pv 5) (fun _ _ => rfl)) (pe_lst (pa_cons (pv 2) pa_nil))))) pa_nil)))))), ?_⟩
    wtm_at "rd"
    refine ⟨g, n, e, st, x, 1, ns, ord, es, f, rfl, gs, hx, fun d A H1 s1 fd fA pa => ?_⟩
    have gs1 := gs.same s1
    wtm_at "rd"
    refine ⟨g, n, e, ns, es, rfl, gs1.grs, fun ad Ad H2 s2 _ had => ?_⟩
    have gs2 := gs1.same s2
    have pa2 := pa.same s2
    wtm_at "rd"
    refine rd_dat (.inl had.di) (kvG_val hx) rfl ?_
    have hos := had.at gs.ok hx
    have cl : ∀ a ∈ ns, ∀ b ∈ nbS (es.map (·.2)) a, b ∈ ns := fun a _ b hb => nbS_in gs.ok hb
    have l1 : ns.length ≤ 1000 := by have := gs.l2; omega
    have kin : ∀ y, y ∈ keysF (slF (es.map (·.2)) f 1 x) ↔ Rr (es.map (·.2)) f 1 x y := fun y => ⟨fun h => stF_reach h, fun h => stF_all (i := 1000) (by have := stF_len (ok := slOk f 1) cl hx 1000; omega) h⟩
    have slp_ : ∀ c ∈ slF (es.map (·.2)) f 1 x, PathTo (nbS (es.map (·.2))) (slOk f 1) x c.1 c.2 ∧ c.2.length ≤ ns.length + 1 ∧ ∀ y ∈ c.2, y ∈ ns := fun c hc => sl_paths gs.ok l1 hx hc
    have slq : ∀ c ∈ slF (es.map (·.2)) f 1 x, SlP (es.map (·.2)) f 1 c.2 ∧ c.2.head? = some x ∧ c.2.getLast? = some c.1 ∧ c.2.length ≤ ns.length + 1 ∧ ∀ y ∈ c.2, y ∈ ns := fun c hc => ⟨(slp_ c hc).1.slp.1, (slp_ c hc).1.slp.2.1, (slp_ c hc).1.slp.2.2, (slp_ c hc).2⟩
    clear slp_
    have plen : ∀ c ∈ slF (es.map (·.2)) f 1 x, c.2.length ≤ 1001 := fun c hc => stF_plen 1000 c hc
    have osa : ∀ o, o ∈ nbS (es.map (·.2)) x ↔ Adj (es.map (·.2)) x o := fun o => nbS_mem
    have osl : (nbS (es.map (·.2)) x).length ≤ 2000 := by
      unfold nbS
      rw [(sortS_perm _).length_eq]
      have := nbrF_len (x := x) (es := es.map (·.2))
      rw [List.length_map] at this
      have := gs.l3
      omega
    generalize nbS (es.map (·.2)) x = os at *
    generalize slF (es.map (·.2)) f 1 x = kp at *
    have s02 := s1.trans s2
    refine rd_forL (SqL.of hos) ?_
    intro D fD
    refine lcL (K := K) (xs := os.map V.str) (fun j H' => Same H2 H' ∧ H' D = some (.lst (((os.take j).filter fun o => decide (o ∈ keysF kp) && decide (slp f o x = 1)).map V.str))) ⟨Same.new fD, upd_same⟩ ?_ ?_ ?_
    · rintro j H' hj ⟨sb, _⟩
      exact SqL.of (sb _ _ hos)
    · rintro j y H' hy ⟨sb, hD⟩
      obtain ⟨hj, rfl⟩ := map_at hy
      have tk := take_snoc hj
      have hom := (adj_in gs.eok ((osa _).mp (List.getElem_mem hj))).2.1
      have lt : ((os.take j).filter fun o => decide (o ∈ keysF kp) && decide (slp f o x = 1)).length ≤ 2000 := Nat.le_trans (List.length_filter_le _ _) (by rw [List.length_take]; omega)
      rw [tk, List.filter_append, List.map_append]
      generalize os[j] = o at *
      wtm_at "rd"
      refine rd_din1 (.inl (sb _ _ pa2.di)) (k := .inr o) rfl ?_
      by_cases mo : o ∈ keysF kp
      · rw [kvG_val mo]
        refine rd_bl ?_
        refine rd_T ?_
        wtm_at "rd"
        refine ⟨st, o, x, ord, f, rfl, .inl (sb _ _ gs2.st), gs.inO _ hom, gs.inO _ hx, ?_⟩
        wtm_at "rd"
        refine rd_split (fun c1 => ?_) (fun c1 => ?_)
        · wtm_at "rd"
          refine rd_acc hD (by rw [List.length_map]; omega) ?_
          refine ⟨same_put sb fD, ?_⟩
          rw [upd_same, List.filter_cons, if_pos (by rw [decide_eq_true mo, decide_eq_true c1]; rfl)]
          rfl
        · refine ⟨sb, ?_⟩
          rw [List.filter_cons, if_neg (by rw [decide_eq_false c1, Bool.and_false]; exact Bool.false_ne_true), List.filter_nil, List.map_nil, List.append_nil]
          exact hD
      · rw [kvG_none mo]
        wtm_at "rd"
        refine ⟨sb, ?_⟩
        rw [List.filter_cons, if_neg (by rw [decide_eq_false mo]; exact Bool.false_ne_true), List.filter_nil, List.map_nil, List.append_nil]
        exact hD
    rintro H3 ⟨s3, hD3⟩
    rw [List.length_map, List.take_length] at hD3
    have fD0 := new_of_same s02 fD
    have enm : ∀ o, o ∈ (os.filter fun o => decide (o ∈ keysF kp) && decide (slp f o x = 1)) ↔ Adj (es.map (·.2)) o x ∧ slp f o x = 1 ∧ Rr (es.map (·.2)) f 1 x o := fun o => by
      rw [List.mem_filter, Bool.and_eq_true, decide_eq_true_iff, decide_eq_true_iff, kin, osa]
      exact ⟨fun ⟨a, b, c⟩ => ⟨a.symm, c, b⟩, fun ⟨a, b, c⟩ => ⟨a.symm, c, b⟩⟩
    have enl : (os.filter fun o => decide (o ∈ keysF kp) && decide (slp f o x = 1)).length ≤ 2000 := Nat.le_trans (List.length_filter_le _ _) osl
    generalize (os.filter fun o => decide (o ∈ keysF kp) && decide (slp f o x = 1)) = en at *
    have s03 := s02.trans s3
    have pa3 := pa2.same s3
    wtm_at "rd"
    refine rd_forL (SqL.of hD3) ?_
    intro D2 fD2
    refine lcL (K := K) (xs := en.map V.str) (fun j H' => ∃ items : List (Addr × List Str), Same H3 H' ∧ H' D2 = some (.lst (items.map fun i => V.ref i.1)) ∧ (∀ i ∈ items, H' i.1 = some (.lst (i.2.map V.str)) ∧ i.1 ≠ D2) ∧ items.length = j ∧ ∀ i ∈ items, CycL ns (es.map (·.2)) f x i.2) ⟨[], Same.new fD2, upd_same, (fun i h => nomatch h), rfl, fun i h => nomatch h⟩ ?_ ?_ ?_
    · rintro j H' hj ⟨items, sb, _⟩
      exact SqL.of (sb _ _ hD3)
    · rintro j y H' hy ⟨items, sb, hD, hit, il, icy⟩
      obtain ⟨hj, rfl⟩ := map_at hy
      have m := (kin _).mpr ((enm _).mp (List.getElem_mem hj)).2.2
      obtain ⟨e1, e2, _⟩ := (enm _).mp (List.getElem_mem hj)
      generalize en[j] = o at *
      obtain ⟨pth, h1, h2⟩ := lookup_some m
      have hp := sb _ _ (pa3.li _ h2)
      have pl := plen _ h2
      obtain ⟨q1, q2, q3, q4, q5⟩ := slq _ h2
      have cyc : CycL ns (es.map (·.2)) f x (pth ++ [x]) := by
        have pp : 0 < pth.length := by
          cases pth with
          | nil => cases q3
          | cons _ _ => simp
        refine ⟨q1.snoc q3 e1 e2, ?_, ?_, by rw [List.length_append, List.length_singleton]; omega, by rw [List.length_append, List.length_singleton]; dsimp only at q4; omega, fun y hy => ?_⟩
        · cases pth with
          | nil => cases q3
          | cons a r => exact q2
        · simp only [List.getLast?_append, List.getLast?_singleton, Option.some_or]
        · rcases List.mem_append.mp hy with hy | hy
          · exact q5 y hy
          · rw [List.mem_singleton.mp hy]
            exact hx
      wtm_at "rd"
      refine rd_dat (.inl (sb _ _ pa3.di)) (kvG_val m) rfl ?_
      wtm_at "rd"
      intro t1 ft1
      refine rd_catL (at_upd (ne_of_none hp ft1) hp) upd_same (by rw [List.length_map]; simp only [List.length_singleton] at *; omega) ?_
      intro t2 ft2
      have sT := same_add (o := .lst (pth.map V.str ++ [.str x])) (same_add (o := .lst [.str x]) sb ft1) ft2
      have hDT := at_upd (o := .lst (pth.map V.str ++ [.str x])) (ne_of_none (at_upd (o := .lst [.str x]) (ne_of_none hD ft1) hD) ft2) (at_upd (o := .lst [.str x]) (ne_of_none hD ft1) hD)
      have hitT : ∀ i ∈ items, (upd (upd H' t1 (.lst [.str x])) t2 (.lst (pth.map V.str ++ [.str x]))) i.1 = some (.lst (i.2.map V.str)) ∧ i.1 ≠ D2 := fun i hi => by
        have a := at_upd (o := .lst [.str x]) (ne_of_none (hit i hi).1 ft1) (hit i hi).1
        exact ⟨at_upd (ne_of_none a ft2) a, (hit i hi).2⟩
      have nt2 : t2 ≠ D2 := Ne.symm (ne_of_none (at_upd (o := .lst [.str x]) (ne_of_none hD ft1) hD) ft2)
      have ht2 : (upd (upd H' t1 (.lst [.str x])) t2 (.lst (pth.map V.str ++ [.str x]))) t2 = some (.lst ((pth ++ [x]).map V.str)) := by
        rw [upd_same, List.map_append]
        rfl
      generalize upd (upd H' t1 (.lst [.str x])) t2 (.lst (pth.map V.str ++ [.str x])) = HT at sT hDT hitT ht2
      refine rd_acc hDT (by rw [List.length_map]; omega) ?_
      refine ⟨items ++ [(t2, pth ++ [x])], same_put sT fD2, by rw [upd_same, List.map_append]; rfl, fun i hi => ?_, by rw [List.length_append, il]; rfl, fun i hi => ?_⟩
      · rcases List.mem_append.mp hi with hi | hi
        · exact ⟨at_upd (hitT i hi).2 (hitT i hi).1, (hitT i hi).2⟩
        · rw [List.mem_singleton] at hi
          subst hi
          exact ⟨at_upd nt2 ht2, nt2⟩
      · rcases List.mem_append.mp hi with hi | hi
        · exact icy i hi
        · rw [List.mem_singleton] at hi
          subst hi
          exact cyc
    rintro H4 ⟨items, s4, hD4, hit4, il, icy⟩
    rw [List.length_map] at il
    have s04 := s03.trans s4
    refine ⟨D2, items, rfl, tabs.ext fun b o h => s04 b o h, hD4, fun i hi => (hit4 i hi).1, fun v H5 e5 t5 i1 i2 => q v H5 ((ExtN.of fun b o h => s04 b o h).trans e5) t5 ?_ ?_⟩
    rotate_left
    · rcases i2 with i2 | ⟨i, hi, e⟩
      · exact .inl i2
      · exact .inr ⟨i.1, i.2, e, ExtN.li e5 (hit4 i hi).1, icy i hi⟩
    rw [i1]
    constructor
    · rintro rfl ⟨y, y1, y2, y3⟩
      have := (enm y).mpr ⟨y1, y2, y3⟩
      cases en with
      | nil => cases this
      | cons z r => cases il
    · intro nc
      cases en with
      | nil => exact List.eq_nil_of_length_eq_zero il
      | cons z r => exact (nc ⟨z, (enm z).mp List.mem_cons_self⟩).elim
end
end Law


/-! cycle_nodes, find_anchors -/
namespace Law
open PySem PySem.Spec PyProof.Rows L2 U LamX


theorem ext_put {H H' : Hp} {D : Addr} {o : HO} (e : ExtN H H') (fD : H D = none) : ExtN H (upd H' D o) := fun b u h n => by
  rw [upd_ne (ne_of_none h fD)]
  exact e b u h n
theorem tabs_put {T : List (Addr × Str)} {H : Hp} {D : Addr} {xs ys : List V} (t : Tabs T H) (hD : H D = some (.lst xs)) : Tabs T (upd H D (.lst ys)) := fun p hp => by
  obtain ⟨ps, h1, h2, h3⟩ := t p hp
  refine ⟨ps, at_upd (ne_of h1 hD (by intro z; cases z)) h1, h2, fun pos cv hc => ?_⟩
  obtain ⟨c, e1, e2⟩ := h3 pos cv hc
  exact ⟨c, e1, at_upd (ne_of e2 hD (by intro z; unfold CodeO at z; cases z)) e2⟩
def spCycNodes (T : List (Addr × Str)) : Sp := fun vs H Q _ => ∃ (g n e st : Addr) (ns ord : List Str) (es : List (Addr × Str × Str)) (f : Str → Int), vs = [.ref g, .ref st] ∧ GSt H g n e st ns ord es f ∧ Tabs T H ∧
  ∀ (l : Addr) (ys : List Str) (H' : Hp), ExtN H H' → Tabs T H' → H l = none → H' l = some (.lst (ys.map V.str)) → (∀ y, y ∈ ys ↔ y ∈ ns ∧ Cyc (es.map (·.2)) f y) → Q (.ref l) H'
theorem sqT_ext {K : PySem.W.Frag} {H H' : Hp} {a : Addr} {xs : List V} (h : SqT K H a xs) (x : ExtN H H') : SqT K H' a xs := by
  rcases h with (h | ⟨o, h⟩) | h
  · exact .inl (.inl (ExtN.tu x h))
  · exact .inl (.inr ⟨o, x _ _ h fun _ z => nomatch z⟩)
  · exact .inr h
section
variable {P : Program} {w : World} {K : PySem.W.Frag} {mg : Str → Option Value} {base : Heap}
structure Y7c (P : Program) (w : World) (K : PySem.W.Frag) (mg : Str → Option Value) (base : Heap) (T : List (Addr × Str)) : Prop where
  cycle_at : Cal P w K mg base CX0 4 "cycle_at" (spCycAt T)
theorem ok_cycle_nodes {f : Addr} {fd : FuncData} {T : List (Addr × Str)} (F : Fun K "cycle_nodes" "cycle_nodes" s_cycle_nodes f fd) (B : Bt mg) (C : Y7c P w K mg base T) : FnG P w K mg base CX0 5 f fd ["graph", "state"] (spCycNodes T) := by
  refine fnG0 F sc_cycle_nodes (fun vs H Q E h => ?_) (fun cdv A outer s H vs Q E hr h => ?_)
  · obtain ⟨g, n, e, st, ns, ord, es, f, rfl, _⟩ := h
    rfl
  · obtain ⟨g, n, e, st, ns, ord, es, f, rfl, gs, tabs, q⟩ := h
    have nd := sc_cycle_nodes.nd
    have hu := hr.u1
    refine ⟨_, (pss_one (ps_ret (pe_lc (own := [("node", 2)]) rfl nd (ki_tup K rfl (pe_ix (kIx K rfl) (pv 0) pe_int (fun _ _ => rfl))) (blkOk_by (own := [("node", 2)]) (N := nN_cycle_nodes) (sc := defScope s_cycle_nodes) (by decide +kernel)) (fun _ _ _ _ _ => (pg_name (i := 2) nd rfl (by first | exact Or.inl rfl | exact Or.inr rfl))) (fun _ _ _ _ _ => (pts_one (pt_cmpR uIsNot (pe_c C.cycle_at hr (by decide) rfl (pa_cons (pv 0) (pa_cons (pv 1) (pa_cons (pv 2) pa_nil)))) pe_non (nomark _)))) (fun _ _ _ _ _ => (pv 2))))), ?_⟩
    wtm_at "rd"
    refine rd_ixT (SqT.of gs.gr.top) (v := .ref n) rfl ?_
    refine rd_forT (SqT.of gs.gr.nodes) ?_
    intro D fD
    refine lcT (K := K) (xs := ns.map V.str) (fun j H' => ExtN H H' ∧ Tabs T H' ∧ ∃ ys : List Str, H' D = some (.lst (ys.map V.str)) ∧ ys.length ≤ j ∧ ∀ y, y ∈ ys ↔ y ∈ ns.take j ∧ Cyc (es.map (·.2)) f y) ⟨ExtN.of (Same.new fD), tabs.ext (Same.new fD), [], upd_same, Nat.le_refl _, fun y => by rw [List.take_zero]; exact ⟨(fun z => nomatch z), fun z => nomatch z.1⟩⟩ ?_ ?_ ?_
    · rintro j H' hj ⟨x, _⟩
      exact SqT.of (ExtN.tu x gs.gr.nodes)
    · rintro j y H' hy ⟨x, tb, ys, hD, yl, ym⟩
      obtain ⟨hj, rfl⟩ := map_at hy
      have tk := take_snoc hj
      have hxn := List.getElem_mem hj
      rw [tk]
      generalize ns[j] = a at *
      have yl2 : ys.length ≤ 1000 := by have := gs.l2; omega
      wtm_at "rd"
      refine ⟨g, n, e, st, a, ns, ord, es, f, rfl, gs.ext x, hxn, tb, fun v H2 x2 tb2 hv _ => ?_⟩
      have hD2 := ExtN.li x2 hD
      have x02 := x.trans x2
      wtm_at "rd"
      try refine rd_isNot ?_
      wtm_at "rd"
      refine rd_nsplit (fun c1 => ?_) (fun c1 => ?_)
      · have cy : Cyc (es.map (·.2)) f a := Classical.byContradiction fun z => c1 (hv.mpr z)
        wtm_at "rd"
        refine rd_acc hD2 (by rw [List.length_map]; omega) ?_
        refine ⟨ext_put x02 fD, tabs_put tb2 hD2, ys ++ [a], by rw [upd_same, List.map_append]; rfl, by rw [List.length_append, List.length_singleton]; omega, fun y => ?_⟩
        rw [List.mem_append, List.mem_append, List.mem_singleton, ym]
        constructor
        · rintro (⟨h1, h2⟩ | rfl)
          · exact ⟨.inl h1, h2⟩
          · exact ⟨.inr rfl, cy⟩
        · rintro ⟨h1 | h1, h2⟩
          · exact .inl ⟨h1, h2⟩
          · exact .inr h1
      · have nc := hv.mp c1
        refine ⟨x02, tb2, ys, hD2, by omega, fun y => ?_⟩
        rw [List.mem_append, List.mem_singleton, ym]
        constructor
        · rintro ⟨h1, h2⟩
          exact ⟨.inl h1, h2⟩
        · rintro ⟨h1 | rfl, h2⟩
          · exact ⟨h1, h2⟩
          · exact (nc h2).elim
    · rintro H' ⟨x, tb, ys, hD, yl, ym⟩
      rw [List.length_map, List.take_length] at ym
      exact q D ys H' x tb fD hD ym
structure Y7d (P : Program) (w : World) (K : PySem.W.Frag) (mg : Str → Option Value) (base : Heap) (T : List (Addr × Str)) : Prop where
  cycle_nodes : Cal P w K mg base CX0 5 "cycle_nodes" (spCycNodes T)
end
end Law


/-! paths_from, components, root_paths, basis_cycles -/
namespace Law
open PySem PySem.Spec PyProof.Rows L2 U


section
variable {X : Cx} {o e : Expr} {es : List Expr} {to : TE} {t : TA} {apos cpos : Pos}
end
def spPathsFrom : Sp := fun vs H Q _ => ∃ (g n e : Addr) (x : Str) (ns : List Str) (es : List (Addr × Str × Str)), vs = [.ref g, .str x] ∧ GrS H g n e ns es ∧ x ∈ ns ∧
  ∀ (d : Addr) (A : Str → Addr) (H' : Hp), Same H H' → H d = none → (∀ c ∈ ptF (es.map (·.2)) x, H (A c.1) = none) → PathsAt H' d (ptF (es.map (·.2)) x) A → Q (.ref d) H'
/-- lists of names stand, each at its own place -/
structure ListsAt (H : Hp) (l : Addr) (cs : List (Addr × List Str)) : Prop where
  li : H l = some (.lst (cs.map fun c => V.ref c.1))
  at_ : ∀ c ∈ cs, H c.1 = some (.lst (c.2.map V.str))
theorem ListsAt.same {H H' : Hp} {l : Addr} {cs : List (Addr × List Str)} (h : ListsAt H l cs) (s : Same H H') : ListsAt H' l cs := ⟨s _ _ h.li, fun c hc => s _ _ (h.at_ c hc)⟩
section
variable {P : Program} {w : World} {K : PySem.W.Frag} {mg : Str → Option Value} {base : Heap}
structure B2c (P : Program) (w : World) (K : PySem.W.Frag) (mg : Str → Option Value) (base : Heap) : Prop where
  adjacency : Cal P w K mg base CX0 1 "adjacency" spAdj
theorem ok_paths_from {f : Addr} {fd : FuncData} (F : Fun K "paths_from" "paths_from" s_paths_from f fd) (B : Bt mg) (C : B2c P w K mg base) : FnG P w K mg base CX0 2 f fd ["graph", "node"] spPathsFrom := by
  refine fnG0 F sc_paths_from (fun vs H Q E h => ?_) (fun cdv A outer s H vs Q E hr h => ?_)
  · obtain ⟨g, n, e, x, ns, es, rfl, _⟩ := h
    rfl
  · obtain ⟨g, n, e, x, ns, es, rfl, gs, hx, q⟩ := h
    have nd := sc_paths_from.nd
    have hu := hr.u1
    refine ⟨_, (pss_cons (ps_set (i := 2) nd rfl (by first | exact Or.inl rfl | exact Or.inr rfl) (pe_c C.adjacency hr (by decide) rfl (pa_cons (pv 0) pa_nil)))
  (pss_cons (ps_set (i := 3) nd rfl (by first | exact Or.inl rfl | exact Or.inr rfl) (pe_disp (pps_cons (pv 1) (pe_lst (pa_cons (pv 1) pa_nil)) pps_nil) (by rfl) (by rfl) (fun z => by cases z) (by decide)))
  (pss_cons (ps_set (i := 4) nd rfl (by first | exact Or.inl rfl | exact Or.inr rfl) (pe_lst (pa_cons (pv 1) pa_nil)))
  (pss_cons (ps_set (i := 5) nd rfl (by first | exact Or.inl rfl | exact Or.inr rfl) pe_int)
  (pss_cons (ps_while PassesOwn.never (pt_cmpR uLt (pv 5) (pe_callB (kLen K rfl) (by rfl) B.len bb_len (pa_cons (pv 4) pa_nil)) (nomark _)) (pss_cons (ps_set (i := 6) nd rfl (by first | exact Or.inl rfl | exact Or.inr rfl) (pe_ix (kIx K rfl) (pv 4) (pv 5) (fun _ _ => rfl)))
  (pss_cons (ps_aug (i := 5) nd rfl (Or.inl rfl) pe_int ip_add)
  (pss_one (ps_for PassesOwn.never rfl (ki_list K rfl (pe_dget hu (pv 2) (pv 6) (fun _ _ => rfl))) (pg_name (i := 7) nd rfl (by first | exact Or.inl rfl | exact Or.inr rfl)) (pss_one (ps_if (pt_cmp (pc_dnotin hu (pv 7) (pv 3))) (pss_cons (ps_dput hu (pv 3) (pv 7) (pe_op (kAdd K rfl) (pe_dget hu (pv 3) (pv 6) (fun _ _ => rfl)) (pe_lst (pa_cons (pv 7) pa_nil))) rfl)
  (pss_one (ps_expr (pe_bm PySem.F.plainAttrs_list PySem.F.slot_list_append PySem.F.type_list_append mt_append (pv 4) (pa_cons (pv 7) pa_nil))))) pss_nil)))))))
  (pss_one (ps_ret (pv 3)))))))), ?_⟩
    wtm_at "rd"
    refine ⟨g, n, e, ns, es, rfl, gs, fun ad Ad H1 s1 _ had => ?_⟩
    wtm_at "rd"
    refine rd_disp fun D fD => ?_
    wtm_at "rd"
    intro t ft
    have ntD := new_ne ft
    refine rd_dispE (x := .str x) (y := .ref t) (k := .inr x) rfl (at_upd (Ne.symm ntD) upd_same) ?_
    rw [show mergeK [] [((Sum.inr x : Key), V.ref t)] = [(Sum.inr x, V.ref t)] from rfl]
    have s2 : Same H1 (upd (upd (upd H1 D (.dK [])) t (.lst [.str x])) D (.dK [(.inr x, .ref t)])) := same_put (same_add (Same.new fD) ft) fD
    have ft1 := new_of_same (Same.new (o := .dK []) fD) ft
    have pa : PathsAt (upd (upd (upd H1 D (.dK [])) t (.lst [.str x])) D (.dK [(.inr x, .ref t)])) D (stF (nbS (es.map (·.2))) (fun _ _ => true) x 0) fun _ => t := ⟨upd_same, fun c hc => by
      rw [stF, List.mem_singleton] at hc
      subst hc
      exact at_upd ntD upd_same⟩
    generalize upd (upd (upd H1 D (.dK [])) t (.lst [.str x])) D (.dK [(.inr x, .ref t)]) = H2 at s2 pa
    wtm_at "rd"
    intro qa fq
    have fq1 := new_of_same s2 fq
    have s3 := same_add (o := .lst [.str x]) s2 fq
    have nDq : D ≠ qa := ne_of_none pa.di fq
    have pa3 := pa.same (Same.new (o := .lst [.str x]) fq)
    have ntq : t ≠ qa := ne_of_none (pa.li (x, [x]) List.mem_cons_self) fq
    have hq3 := @upd_same H2 qa (.lst [.str x])
    generalize upd H2 qa (.lst [.str x]) = H3 at s3 pa3 hq3
    wtm_at "rd"
    have cl : ∀ a ∈ ns, ∀ b ∈ nbS (es.map (·.2)) a, b ∈ ns := fun a _ b hb => nbS_in gs.ok hb
    refine ⟨fun m σ H' => ∃ (i : Nat) (A : Str → Addr) (u8 u9 : Option V), m = ns.length + 1 - i ∧ i ≤ ns.length ∧ σ = [some (.ref g), some (.str x), some (.ref ad), some (.ref D), some (.ref qa), some (.int i), u8, u9] ∧ Same H1 H' ∧
      PathsAt H' D (stF (nbS (es.map (·.2))) (fun _ _ => true) x i) A ∧ (∀ c ∈ stF (nbS (es.map (·.2))) (fun _ _ => true) x i, H1 (A c.1) = none ∧ A c.1 ≠ qa) ∧ H' qa = some (.lst ((keysF (stF (nbS (es.map (·.2))) (fun _ _ => true) x i)).map V.str)),
      ⟨_, 0, fun _ => t, _, _, rfl, Nat.zero_le _, rfl, s3, pa3, fun c _ => ⟨ft1, ntq⟩, hq3⟩, ?_⟩
    rintro m σ H' ⟨i, A, u8, u9, rfl, il, rfl, s, pa, fr, hq⟩
    have sl := stF_len (ok := (fun _ _ => true)) cl hx i
    have hin : ∀ c ∈ stF (nbS (es.map (·.2))) (fun _ _ => true) x i, c.1 ∈ ns := fun c hc => reach_mem cl hx (stF_reach (List.mem_map_of_mem hc))
    wtm_at "rd"
    refine rd_lenL (SqL.of hq) ?_
    rw [List.length_map, List.length_map]
    wtm_at "rd"
    refine rd_split (fun c0 => ?_) (fun c0 => ?_)
    case refine_2 =>
      rw [stF_done (by omega) (by have := gs.l2; omega)] at pa fr
      wtm_at "rd"
      exact q D A H' (s1.trans s) (new_of_same s1 fD) (fun c hc => new_of_same s1 (fr c hc).1) pa
    have hi : i < (stF (nbS (es.map (·.2))) (fun _ _ => true) x i).length := by omega
    refine ⟨fun σ' H' => ∃ (A : Str → Addr) (u8 u9 : Option V), σ' = [some (.ref g), some (.str x), some (.ref ad), some (.ref D), some (.ref qa), some (.int (i + 1 : Nat)), u8, u9] ∧ Same H1 H' ∧
      PathsAt H' D (stF (nbS (es.map (·.2))) (fun _ _ => true) x (i + 1)) A ∧ (∀ c ∈ stF (nbS (es.map (·.2))) (fun _ _ => true) x (i + 1), H1 (A c.1) = none ∧ A c.1 ≠ qa) ∧ H' qa = some (.lst ((keysF (stF (nbS (es.map (·.2))) (fun _ _ => true) x (i + 1))).map V.str)),
      fun σ' H' ⟨A, u8, u9, h1, h2, h3, h4, h5⟩ => ⟨ns.length + 1 - (i + 1), by omega, i + 1, A, u8, u9, rfl, by omega, h1, h2, h3, h4, h5⟩, ?_⟩
    have e1 : (stF (nbS (es.map (·.2))) (fun _ _ => true) x i)[i]? = some (stF (nbS (es.map (·.2))) (fun _ _ => true) x i)[i] := List.getElem?_eq_getElem hi
    have cm := List.getElem_mem hi
    rw [stF_at e1]
    wtm_at "rd"
    refine rd_ixL (SqL.of hq) (atI_nat (v := .str (stF (nbS (es.map (·.2))) (fun _ _ => true) x i)[i].1) (by rw [List.getElem?_map, List.getElem?_map, e1]; rfl)) ?_
    have cn := hin _ cm
    have cp := pa.li _ cm
    have cq := fr _ cm
    have cpl := stF_plen _ _ cm
    generalize (stF (nbS (es.map (·.2))) (fun _ _ => true) x i)[i] = c at *
    generalize hkp : stF (nbS (es.map (·.2))) (fun _ _ => true) x i = kp at *
    have lkp : (keysF kp).Nodup := by rw [← hkp]; exact stF_nodup i
    wtm_at "rd"
    refine rd_augI rfl ?_
    wtm_at "rd"
    refine rd_ipI ?_
    have ei : (i : Int) + 1 = ((i + 1 : Nat) : Int) := by omega
    rw [ei]
    wtm_at "rd"
    refine rd_dat (.inl (s _ _ had.di)) (kvG_val cn) rfl ?_
    have hos := had.at gs.ok cn
    have osn : ∀ o ∈ nbS (es.map (·.2)) c.1, o ∈ ns := fun o ho => cl _ cn o ho
    have osl : (nbS (es.map (·.2)) c.1).length ≤ 2000 := by
      unfold nbS
      rw [(sortS_perm _).length_eq]
      have := nbrF_len (x := c.1) (es := es.map (·.2))
      rw [List.length_map] at this
      have := gs.l3
      omega
    generalize nbS (es.map (·.2)) c.1 = os at *
    refine rd_forL (SqL.of (s _ _ hos)) ?_
    refine turnsL (K := K) (xs := os.map V.str) (fun j σ H' => ∃ (A : Str → Addr) (u9 : Option V), σ = [some (.ref g), some (.str x), some (.ref ad), some (.ref D), some (.ref qa), some (.int (i + 1 : Nat)), some (.str c.1), u9] ∧ Same H1 H' ∧
      PathsAt H' D (addsF (fun _ _ => true) c (os.take j) kp) A ∧ (∀ c2 ∈ addsF (fun _ _ => true) c (os.take j) kp, H1 (A c2.1) = none ∧ A c2.1 ≠ qa) ∧ H' qa = some (.lst ((keysF (addsF (fun _ _ => true) c (os.take j) kp)).map V.str))) ⟨A, u9, rfl, s, pa, fr, hq⟩ ?_ ?_ ?_
    · rintro j σ H' hj ⟨A, u9, rfl, s, _⟩
      exact SqL.of (s _ _ hos)
    · rintro j y σ H' hy ⟨A, u9, rfl, s, pa, fr, hq⟩
      obtain ⟨hj, rfl⟩ := map_at hy
      have hom := osn _ (List.getElem_mem hj)
      have tk : addsF (fun _ _ => true) c (os.take (j + 1)) kp = addF (fun _ _ => true) c (addsF (fun _ _ => true) c (os.take j) kp) os[j] := by rw [take_snoc hj, addsF_snoc]
      have len : (addsF (fun _ _ => true) c (os.take j) kp).length ≤ kp.length + 2000 := by
        have := addsF_len (ok := (fun _ _ => true)) (c := c) (os := os.take j) (kp := kp)
        rw [List.length_take] at this
        omega
      have cin : c ∈ addsF (fun _ _ => true) c (os.take j) kp := by
        obtain ⟨r, hr⟩ := addsF_pre (ok := (fun _ _ => true)) (c := c) (os := os.take j) (kp := kp)
        rw [hr]
        exact List.mem_append_left _ cm
      generalize addsF (fun _ _ => true) c (os.take j) kp = k1 at *
      generalize os[j] = o at *
      wtm_at "rd"
      refine rd_din1 (.inl pa.di) (k := .inr o) rfl ?_
      have skip : (o ∈ keysF k1 ∨ (fun _ _ => true) c.1 o = false) → addsF (fun _ _ => true) c (os.take (j + 1)) kp = k1 := fun h => by
        rw [tk]
        unfold addF
        rw [if_neg]
        rintro ⟨z1, z2⟩
        rcases h with h | h
        · exact z1 h
        · rw [h] at z2
          cases z2
      by_cases mo : o ∈ keysF k1
      · rw [kvG_val mo]
        wtm_at "rd"
        rw [skip (.inl mo)]
        exact ⟨A, _, rfl, s, pa, fr, hq⟩
      · rw [kvG_none mo]
        refine rd_bl ?_
        refine rd_T ?_
        wtm_at "rd"
        have tk2 : addsF (fun _ _ => true) c (os.take (j + 1)) kp = k1 ++ [(o, c.2 ++ [o])] := by
          rw [tk]
          unfold addF
          exact if_pos ⟨mo, rfl⟩
        rw [tk2]
        wtm_at "rd"
        refine rd_dat (.inl pa.di) (kvG_val (List.mem_map_of_mem cin)) rfl ?_
        wtm_at "rd"
        intro t1 ft1
        have pl1 := pa.li _ cin
        refine rd_catL (at_upd (ne_of_none pl1 ft1) pl1) upd_same (by rw [List.length_map]; simp only [List.length_singleton]; have := gs.l2; omega) ?_
        intro t2 ft2
        have sT := same_add (o := .lst (c.2.map V.str ++ [.str o])) (same_add (o := .lst [.str o]) s ft1) ft2
        have paT := (pa.same (Same.new (o := .lst [.str o]) ft1)).same (Same.new (o := .lst (c.2.map V.str ++ [.str o])) ft2)
        have hqT := at_upd (o := .lst (c.2.map V.str ++ [.str o])) (ne_of_none (at_upd (o := .lst [.str o]) (ne_of_none hq ft1) hq) ft2) (at_upd (o := .lst [.str o]) (ne_of_none hq ft1) hq)
        have nt2 : t2 ≠ qa := Ne.symm (ne_of_none (at_upd (o := .lst [.str o]) (ne_of_none hq ft1) hq) ft2)
        have ft20 := new_of_same (same_add (o := .lst [.str o]) s ft1) ft2
        have ht2 : (upd (upd H' t1 (.lst [.str o])) t2 (.lst (c.2.map V.str ++ [.str o]))) t2 = some (.lst ((c.2 ++ [o]).map V.str)) := by
          rw [upd_same, List.map_append]
          rfl
        generalize upd (upd H' t1 (.lst [.str o])) t2 (.lst (c.2.map V.str ++ [.str o])) = HT at sT paT hqT ht2
        wtm_at "rd"
        refine rd_dset paT.di (k := .inr o) rfl (by rw [List.length_map, List.length_map]; have := gs.l2; omega) ?_
        have pa2 := paT.put mo ht2
        have sU := same_put (o := .dK (putK (kvG (keysF k1) fun n => .ref (A n)) (.inr o) (.ref t2))) sT fD
        have hqU := at_upd (o := .dK (putK (kvG (keysF k1) fun n => .ref (A n)) (.inr o) (.ref t2))) (Ne.symm nDq) hqT
        generalize upd HT D (.dK (putK (kvG (keysF k1) fun n => .ref (A n)) (.inr o) (.ref t2))) = HU at pa2 sU hqU
        wtm_at "rd"
        refine rd_tyL hqU ?_
        wtm_at "rd"
        refine rd_append hqU (by rw [List.length_map, List.length_map]; have := gs.l2; omega) ?_
        have off : ∀ c2 ∈ k1 ++ [(o, c.2 ++ [o])], H1 (updV A o t2 c2.1) = none ∧ updV A o t2 c2.1 ≠ qa := fun c2 hc2 => by
          unfold updV
          rcases List.mem_append.mp hc2 with h | h
          · rw [if_neg (fun z => mo (by rw [← z]; exact List.mem_map_of_mem h))]
            exact fr c2 h
          · rw [List.mem_singleton] at h
            subst h
            rw [if_pos rfl]
            exact ⟨ft20, nt2⟩
        refine ⟨updV A o t2, _, rfl, same_put sU fq1, pa2.off hqU (fun c2 hc2 => (off c2 hc2).2), off, ?_⟩
        rw [upd_same, show keysF (k1 ++ [(o, c.2 ++ [o])]) = keysF k1 ++ [o] from List.map_append, List.map_append]
        rfl
    · rintro σ H' ⟨A, u9, rfl, s, pa, fr, hq⟩
      rw [List.length_map, List.take_length] at pa fr hq
      wtm_at "rd"
      exact ⟨A, _, _, rfl, s, pa, fr, hq⟩
end
end Law

/-! small readings that many laws want -/
namespace U
open PySem PySem.Spec PyProof.Rows L2
section
variable {K : PySem.W.Frag} {H H' : Hp} {Q : VK} {p q a : Addr} {σ : L2.St} {te td : TE} {tr : TA} {xs : List V}
theorem rd_revL (h : te σ H fun x H1 => ∃ a xs, x = .ref a ∧ SqL K H1 a xs ∧ ∀ p, H1 p = none → Q (.ref p) (upd H1 p (.lst xs.reverse))) : tRevL K te σ H Q := h
end
theorem key_at {ns : List Str} {h : Str → Int} {j : Nat} {k1 : Key} {v1 : V} (hin : j < ns.length) (e1 : (kvF ns h)[j]? = some (k1, v1)) : k1 = .inr ns[j] ∧ v1 = .int (h ns[j]) := by
  rw [kvF, List.getElem?_map, List.getElem?_eq_getElem hin] at e1
  have := Option.some.inj e1
  exact ⟨(Prod.mk.inj this).1.symm, (Prod.mk.inj this).2.symm⟩
end U


/-! root_paths, basis_cycles, path_sum, windings -/
namespace Law
open PySem PySem.Spec PyProof.Rows L2 U


section
variable {P : Program} {w : World} {K : PySem.W.Frag} {mg : Str → Option Value} {base : Heap}
end
end Law


/-! slopes as the laws count them; walks drawn -/
namespace Law
open PySem PySem.Spec PyProof.Rows L2 U


section
variable {P : Program} {w : World} {K : PySem.W.Frag} {mg : Str → Option Value} {base : Heap}
end
end Law

/-! components as a law finds them: the plain law -/
namespace U
open PySem PySem.Spec PyProof.Rows L2
end U


/-! reach, cycles, anchors as the laws find them -/
namespace Law
open PySem PySem.Spec PyProof.Rows L2 U


section
variable {P : Program} {w : World} {K : PySem.W.Frag} {mg : Str → Option Value} {base : Heap}
end
end Law


/-! the anchors, in their order -/
namespace Law
open PySem PySem.Spec PyProof.Rows L2 U LamX


open Classical in noncomputable def ancF (ns : List Str) (es : List (Str × Str)) (f : Str → Int) (pn : List Str) : List Str := ns.filter fun y => decide (y ∈ pn ∨ Cyc es f y)
section
variable {ns a b : List Str} {es : List (Str × Str)} {f : Str → Int} {pn : List Str}
theorem ancF_app : ancF (a ++ b) es f pn = ancF a es f pn ++ ancF b es f pn := List.filter_append ..
theorem ancF_yes {x : Str} (h : x ∈ pn ∨ Cyc es f x) : ancF [x] es f pn = [x] := by
  classical
  unfold ancF
  rw [List.filter_cons, if_pos (decide_eq_true h)]
  rfl
theorem ancF_no {x : Str} (h : ¬ (x ∈ pn ∨ Cyc es f x)) : ancF [x] es f pn = [] := by
  classical
  unfold ancF
  rw [List.filter_cons, if_neg (by rw [decide_eq_false h]; exact Bool.false_ne_true)]
  rfl
theorem ancF_mem {x : Str} : x ∈ ancF ns es f pn ↔ x ∈ ns ∧ (x ∈ pn ∨ Cyc es f x) := by
  classical
  unfold ancF
  rw [List.mem_filter, decide_eq_true_iff]
theorem ancF_len : (ancF ns es f pn).length ≤ ns.length := List.length_filter_le _ _
end
def spFindAnchO (K : PySem.W.Frag) (T : List (Addr × Str)) : Sp := fun vs H Q _ => ∃ (g n e st ps : Addr) (ns ord pn : List Str) (es : List (Addr × Str × Str)) (f : Str → Int), vs = [.ref g, .ref st, .ref ps] ∧ GSt H g n e st ns ord es f ∧ SqT K H ps (pn.map V.str) ∧ Tabs T H ∧
  ∀ (l : Addr) (H' : Hp), ExtN H H' → Tabs T H' → (∀ b o, H b = some o → (∀ ps, o ≠ .tbl ps) → b ≠ l) → H' l = some (.lst ((ancF ns (es.map (·.2)) f pn).map V.str)) → Q (.ref l) H'
section
variable {P : Program} {w : World} {K : PySem.W.Frag} {mg : Str → Option Value} {base : Heap}
theorem ok_find_anchorsO {f : Addr} {fd : FuncData} {T : List (Addr × Str)} (F : Fun K "find_anchors" "find_anchors" s_find_anchors f fd) (B : Bt mg) (C : Y7d P w K mg base T) : FnG P w K mg base CX0 6 f fd ["graph", "state", "pinned"] (spFindAnchO K T) := by
  refine fnG0 F sc_find_anchors (fun vs H Q E h => ?_) (fun cdv A outer s H vs Q E hr h => ?_)
  · obtain ⟨g, n, e, st, ps, ns, ord, pn, es, f, rfl, _⟩ := h
    rfl
  · obtain ⟨g, n, e, st, ps, ns, ord, pn, es, f, rfl, gs, hps, tabs, q⟩ := h
    have nd := sc_find_anchors.nd
    have hu := hr.u1
    refine ⟨_, (pss_cons (ps_set (i := 3) nd rfl (by first | exact Or.inl rfl | exact Or.inr rfl) (pe_c C.cycle_nodes hr (by decide) rfl (pa_cons (pv 0) (pa_cons (pv 1) pa_nil))))
  (pss_one (ps_ret (pe_lc (own := [("node", 4)]) rfl nd (ki_tup K rfl (pe_ix (kIx K rfl) (pv 0) pe_int (fun _ _ => rfl))) (blkOk_by (own := [("node", 4)]) (N := nN_find_anchors) (sc := defScope s_find_anchors) (by decide +kernel)) (fun _ _ _ _ _ => (pg_name (i := 4) nd rfl (by first | exact Or.inl rfl | exact Or.inr rfl))) (fun _ _ _ _ _ => (pts_one (PW.pt (pw_or (pt_cmpR (kIn K rfl) (pv 4) (pv 2) rfl) (pw_or1 (pt_cmpR (kIn K rfl) (pv 4) (pv 3) rfl)))))) (fun _ _ _ _ _ => (pv 4)))))), ?_⟩
    wtm_at "rd"
    refine ⟨g, n, e, st, ns, ord, es, f, rfl, gs, tabs, fun cl cy H1 x1 tb1 fcl hcl cm => ?_⟩
    have gs1 := gs.ext x1
    have hps1 := sqT_ext hps x1
    wtm_at "rd"
    refine rd_ixT (SqT.of gs1.gr.top) (v := .ref n) rfl ?_
    refine rd_forT (SqT.of gs1.gr.nodes) ?_
    intro D fD
    have fD0 : ∀ b o, H b = some o → (∀ ps, o ≠ .tbl ps) → b ≠ D := fun b o h z => ne_of_none (x1 _ _ h z) fD
    refine lcT (K := K) (xs := ns.map V.str) (fun j H' => Same H1 H' ∧ H' D = some (.lst ((ancF (ns.take j) (es.map (·.2)) f pn).map V.str))) ⟨Same.new fD, upd_same⟩ ?_ ?_ ?_
    · rintro j H' hj ⟨sb, _⟩
      exact SqT.of (sb _ _ gs1.gr.nodes)
    · rintro j y H' hy ⟨sb, hD⟩
      obtain ⟨hj, rfl⟩ := map_at hy
      have tk := take_snoc hj
      have al : (ancF (ns.take j) (es.map (·.2)) f pn).length ≤ 1000 := Nat.le_trans ancF_len (by rw [List.length_take]; have := gs.l2; omega)
      rw [tk, ancF_app, List.map_append]
      have hxn := List.getElem_mem hj
      generalize ns[j] = a at *
      wtm_at "rd"
      refine rd_inST (Same.seqT sb hps1) ?_
      wtm_at "rd"
      refine rd_split (fun c1 => ?_) (fun c1 => ?_)
      · wtm_at "rd"
        refine rd_acc hD (by rw [List.length_map]; omega) ?_
        rw [ancF_yes (.inl c1)]
        exact ⟨same_put sb fD, upd_same⟩
      · wtm_at "rd"
        refine rd_inSL (SqL.of (sb _ _ hcl)) ?_
        wtm_at "rd"
        refine rd_split (fun c2 => ?_) (fun c2 => ?_)
        · wtm_at "rd"
          refine rd_acc hD (by rw [List.length_map]; omega) ?_
          rw [ancF_yes (.inr ((cm _).mp c2).2)]
          exact ⟨same_put sb fD, upd_same⟩
        · rw [ancF_no fun z => z.elim c1 fun z => c2 ((cm _).mpr ⟨hxn, z⟩)]
          exact ⟨sb, hD.trans (by rw [List.map_nil, List.append_nil])⟩
    · rintro H' ⟨sb, hD⟩
      rw [List.length_map, List.take_length] at hD
      exact q D H' (x1.trans (ExtN.of fun b o h => sb b o h)) (tb1.ext fun b o h => sb b o h) fD0 hD
end
end Law

/-! the values that a node may have: the plain law -/
namespace U
open PySem PySem.Spec PyProof.Rows L2
open Law (ancF ancF_mem)
section
variable {ns : List Str} {es : List (Str × Str)} {f h : Str → Int} {pn : List Str}
/-- a node's number next to that of a neighbour -/
theorem fit_adj (ok : EsOk ns es f) (fe : Fits es f h) {a b : Str} (k : Adj es a b) : slp f a b - 2 * (h a - h b) = 1 ∨ slp f a b - 2 * (h a - h b) = -1 := by
  rcases k with k | k
  · exact fit_pm.mp (fe _ k)
  · have := fit_pm.mp (fe _ k)
    have e := slp_neg ok (show Adj es b a from .inl k)
    simp only at this
    omega
theorem step_up (ok : EsOk ns es f) (fe : Fits es f h) {a b : Str} (k : Adj es a b) : h b ≤ h a + (wF f (-1) a b : Nat) := by
  have := fit_adj ok fe k
  unfold wF
  rcases slp_pm f a b with e | e
  · rw [if_neg (by omega)]
    omega
  · rw [if_pos e]
    omega
theorem step_dn (ok : EsOk ns es f) (fe : Fits es f h) {a b : Str} (k : Adj es a b) : h a - (wF f 1 a b : Nat) ≤ h b := by
  have := fit_adj ok fe k
  unfold wF
  rcases slp_pm f a b with e | e
  · rw [if_pos e]
    omega
  · rw [if_neg (by omega)]
    omega
theorem path_up (ok : EsOk ns es f) (fe : Fits es f h) : ∀ {q : List Str} {s x : Str}, Wk es q → q.head? = some s → q.getLast? = some x → h x ≤ h s + (ctF (wF f (-1)) q : Nat)
  | [a], s, x, _, h1, h2 => by
    obtain rfl : a = s := Option.some.inj h1
    obtain rfl : a = x := Option.some.inj h2
    exact Int.le_add_of_nonneg_right (Int.natCast_nonneg _)
  | a :: b :: r, s, x, wk, h1, h2 => by
    obtain rfl : a = s := Option.some.inj h1
    rw [List.getLast?_cons_cons] at h2
    have ih := path_up ok fe (q := b :: r) wk.2 rfl h2
    have st := step_up ok fe wk.1
    have e : ctF (wF f (-1)) (a :: b :: r) = wF f (-1) a b + ctF (wF f (-1)) (b :: r) := rfl
    rw [e]
    omega
theorem path_dn (ok : EsOk ns es f) (fe : Fits es f h) : ∀ {q : List Str} {s x : Str}, Wk es q → q.head? = some s → q.getLast? = some x → h s - (ctF (wF f 1) q : Nat) ≤ h x
  | [a], s, x, _, h1, h2 => by
    obtain rfl : a = s := Option.some.inj h1
    obtain rfl : a = x := Option.some.inj h2
    exact Int.sub_le_self _ (Int.natCast_nonneg _)
  | a :: b :: r, s, x, wk, h1, h2 => by
    obtain rfl : a = s := Option.some.inj h1
    rw [List.getLast?_cons_cons] at h2
    have ih := path_dn ok fe (q := b :: r) wk.2 rfl h2
    have st := step_dn ok fe wk.1
    have e : ctF (wF f 1) (a :: b :: r) = wF f 1 a b + ctF (wF f 1) (b :: r) := rfl
    rw [e]
    omega
theorem anc_zero (fe : Feas ns es f h pn) {s : Str} (hs : s ∈ ancF ns es f pn) : h s = 0 := by
  rcases (ancF_mem.mp hs).2 with q | q
  · exact fe.pin s q
  · exact fe.cyc s q
section
variable {ks ks2 : List Str} {c c2 : Str → Nat}
theorem CstP.most (ok : EsOk ns es f) (a : CstP ns es f (ancF ns es f pn) (-1) ks c) (fe : Feas ns es f h pn) {x : Str} (hx : x ∈ ks) : h x ≤ (c x : Int) := by
  obtain ⟨q, s, hs, h1, h2, h3, h4⟩ := (a.min x hx).ex
  have := path_up ok fe.fit h1 h2 h3
  have := anc_zero fe hs
  omega
theorem CstP.least (ok : EsOk ns es f) (a : CstP ns es f (ancF ns es f pn) 1 ks c) (fe : Feas ns es f h pn) {x : Str} (hx : x ∈ ks) : -(c x : Int) ≤ h x := by
  obtain ⟨q, s, hs, h1, h2, h3, h4⟩ := (a.min x hx).ex
  have := path_dn ok fe.fit h1 h2 h3
  have := anc_zero fe hs
  omega
theorem CstP.near {src : List Str} {dr : Int} (a : CstP ns es f src dr ks c) {x y : Str} (hx : x ∈ ks) (k : Adj es x y) : y ∈ ks ∧ ∀ hy : y ∈ ks, c y ≤ c x + wF f dr x y := by
  obtain ⟨q, s, hs, h1, h2, h3, h4⟩ := (a.min x hx).ex
  have w2 := h1.snoc h3 k
  have hd : (q ++ [y]).head? = some s := by rw [List.head?_append, h2]; rfl
  have lst : (q ++ [y]).getLast? = some y := by simp
  refine ⟨a.all _ s hs w2 hd y lst, fun hy => ?_⟩
  have := (a.min y hy).le _ s hs w2 hd lst
  rw [ctF_snoc h3] at this
  omega
end
theorem con_inN (ok : EsOk ns es f) {a b : Str} (ha : a ∈ ns) (r : Con es a b) : b ∈ ns := by
  induction r with
  | refl => exact ha
  | @step x y _ m _ ih =>
    rcases nbS_mem.mp m with k | k
    · exact (ok.mem _ k).2
    · exact (ok.mem _ k).1
variable {ks ks2 : List Str} {c c2 : Str → Nat}
/-- read off the states that are reached -/
theorem RchS.vals {ss : List (List Int × Nat)} (r : RchS ns es pn f ss ss.length) (ok : EsOk ns es f) (nd : ns.Nodup) {i : Nat} (hi : i < ns.length) (v : Int) :
    (∃ s ∈ ss, s.1[i]? = some v) ↔ ∃ g h, EsOk ns es g ∧ Lft ns es f g pn h ∧ g ns[i] = v := by
  constructor
  · rintro ⟨s, hs, e⟩
    obtain ⟨ms, f', p, _, e2⟩ := r.ok s hs
    have ok' := (plays_off ok p).1
    have hm : ns.map f' ∈ ss.map (·.1) := by
      rw [← e2]
      exact List.mem_map_of_mem (f := (·.1)) hs
    obtain ⟨h, l⟩ := (r.lft ok ok' nd).mp hm
    refine ⟨f', h, ok', l, ?_⟩
    rw [e2, List.getElem?_map, List.getElem?_eq_getElem hi] at e
    exact Option.some.inj e
  · rintro ⟨g, h, gok, l, e⟩
    obtain ⟨s, hs, e2⟩ := List.mem_map.mp ((r.lft ok gok nd).mpr ⟨h, l⟩)
    refine ⟨s, hs, ?_⟩
    rw [e2, List.getElem?_map, List.getElem?_eq_getElem hi]
    exact congrArg some e
theorem ct_len {f : Str → Int} {dr : Int} : ∀ q : List Str, ctF (wF f dr) q ≤ q.length
  | [] => Nat.le_refl _
  | [_] => Nat.zero_le _
  | x :: y :: r => by
    have h := ct_len (f := f) (dr := dr) (y :: r)
    have l : wF f dr x y ≤ 1 := by
      unfold wF
      split <;> omega
    show wF f dr x y + ctF (wF f dr) (y :: r) ≤ (y :: r).length + 1
    omega
/-- a cost is at most the number of nodes -/
theorem CstP.low {src : List Str} {dr : Int} (ok : EsOk ns es f) (hin : ∀ x ∈ src, x ∈ ns) (a : CstP ns es f src dr ks c) {x : Str} (hx : x ∈ ks) : c x ≤ ns.length := by
  obtain ⟨q, s, hs, wk, h1, h2, _⟩ := (a.min x hx).ex
  obtain ⟨q', nd', wk', h1', h2', _, _⟩ := simple_wk (w := wF f dr) q.length (Nat.le_refl _) wk h1 h2
  exact Nat.le_trans ((a.min x hx).le q' s hs wk' h1' h2') (Nat.le_trans (ct_len q') (nodup_len nd' (wk_in ok (hin s hs) h1' wk')))
end
end U

/-! a def that calls itself -/
namespace Law
open PySem PySem.Spec PyProof.Rows L2 U
structure SelfR (K : PySem.W.Frag) (mg : Str → Option Value) (x : Str) (f : Addr) (fd : FuncData) (ps : List Str) : Prop where
  mg : mg x = some (.ref f)
  kp : PySem.W.keepIn K (.ref f) = true
  bd : Binds K fd ps []
end Law

/-! dicts whose keys are tuples of numbers; tuples of three values -/
namespace U
open PySem PySem.Spec PyProof.Rows L2
def allT : Nat → List (List Int)
  | 0 => [[]]
  | n + 1 => (allT n).flatMap fun s => [0 :: s, 1 :: s, 2 :: s]
theorem allT_len : ∀ n, (allT n).length = 3 ^ n
  | 0 => rfl
  | n + 1 => by
    have key : ∀ xs : List (List Int), (xs.flatMap fun s => [0 :: s, 1 :: s, 2 :: s]).length = 3 * xs.length := by
      intro xs
      induction xs with
      | nil => rfl
      | cons x r ih =>
        rw [List.flatMap_cons, List.length_append, ih, List.length_cons]
        simp only [List.length_cons, List.length_nil]
        omega
    rw [allT, key, allT_len n, Nat.pow_succ, Nat.mul_comm]
theorem allT_mem : ∀ {n : Nat} {s : List Int}, s.length = n → (∀ v ∈ s, 0 ≤ v ∧ v < 3) → s ∈ allT n
  | 0, [], _, _ => List.mem_singleton.mpr rfl
  | n + 1, v :: s, h, b => by
    have ih := allT_mem (s := s) (Nat.succ.inj h) fun w hw => b w (List.mem_cons_of_mem _ hw)
    refine List.mem_flatMap.mpr ⟨s, ih, ?_⟩
    have := b v List.mem_cons_self
    have : v = 0 ∨ v = 1 ∨ v = 2 := by omega
    rcases this with rfl | rfl | rfl <;> simp
/-- few states -/
theorem RchS.few {ns : List Str} {es : List (Str × Str)} {pn : List Str} {f : Str → Int} {ss : List (List Int × Nat)} {a : Nat} (r : RchS ns es pn f ss a) (okf : EsOk ns es f) (nd : ns.Nodup) (n7 : ns.length ≤ 7) : ss.length ≤ 2187 := by
  have := nodup_len (ys := allT ns.length) r.nd fun s hs => by
    obtain ⟨t, ht, rfl⟩ := List.mem_map.mp hs
    obtain ⟨ms, f', p, _, e⟩ := r.ok t ht
    obtain ⟨ok', _⟩ := plays_lift okf nd p
    rw [e]
    refine allT_mem (List.length_map _) fun v hv => ?_
    obtain ⟨x, hx, rfl⟩ := List.mem_map.mp hv
    exact ok'.tri x hx
  rw [List.length_map, allT_len] at this
  have : 3 ^ ns.length ≤ 3 ^ 7 := Nat.pow_le_pow_right (by decide) n7
  omega
end U


/-! slices and sums of tuples, the tuple itself told -/
namespace Law
open PySem PySem.Spec PyProof.Rows L2 U
end Law

/-! a pair among pairs; lists of lists of texts -/
namespace U
open PySem PySem.Spec PyProof.Rows L2
def rNinT (K : PySem.W.Frag) : R2 := fun x y H Q => ∃ (d : PyData) (ds : List PyData), Dp K H x d ∧ Dp K H y (.tuple ds) ∧ SeqAt.shaped d = true ∧ SeqAt.shaped (.tuple ds) = true ∧ Q (.bl (!ds.any fun z => PyData.eqv z d)) H
theorem kNinT {X : Cx} (K : PySem.W.Frag) (hK : X.K = K) (hu : X.A.units + 65 < cLine) : OpR X (compareOp .NotIn) (rNinT K) := by
  subst hK
  intro pins s σ H x y v u Q I rx ry ⟨d, ds, hd, he, sd, se, q⟩
  obtain ⟨_, r1⟩ := Dp.reads I _ _ _ hd rx
  obtain ⟨_, r2⟩ := Dp.reads I _ _ _ he ry
  exact SeqAt.notIn_tuple_reads r2 r1 (SeqAt.canLay_of_shaped se) (SeqAt.canLay_of_shaped sd) (room_in_shaped sd hu) ⟨.bl _, H, I, rfl, q⟩
theorem kNinL {X : Cx} (K : PySem.W.Frag) (hK : X.K = K) (hu : X.A.units + 65 < cLine) : OpR X (compareOp .NotIn) (rNotInD K) := by
  subst hK
  exact op_notInD hu
abbrev dE (e : Str × Str) : PyData := .tuple [.str e.1, .str e.2]
theorem eqv_dE {a b : Str × Str} : PyData.eqv (dE a) (dE b) = decide (a = b) := by
  obtain ⟨a1, a2⟩ := a
  obtain ⟨b1, b2⟩ := b
  rw [Bool.eq_iff_iff]
  simp [dE, PyData.eqv, PyData.eqvAll]
theorem any_dE {es : List (Str × Str)} {e : Str × Str} : ((es.map dE).any fun z => PyData.eqv z (dE e)) = decide (e ∈ es) := by
  rw [Bool.eq_iff_iff, List.any_eq_true, decide_eq_true_iff]
  constructor
  · rintro ⟨z, hz, h⟩
    obtain ⟨y, hy, rfl⟩ := List.mem_map.mp hz
    rw [eqv_dE, decide_eq_true_iff] at h
    rw [← h]
    exact hy
  · intro h
    exact ⟨_, List.mem_map_of_mem h, by rw [eqv_dE]; exact decide_eq_true rfl⟩
theorem dp_edges {K : PySem.W.Frag} {H : Hp} : ∀ {es : List (Addr × Str × Str)}, (∀ x ∈ es, SqT K H x.1 [.str x.2.1, .str x.2.2]) → DpAll K H (es.map fun x => V.ref x.1) ((es.map (·.2)).map dE)
  | [], _ => .nil
  | x :: r, h => .cons (.tup (h x List.mem_cons_self) (.cons (.str _) (.cons (.str _) .nil))) (dp_edges fun y hy => h y (List.mem_cons_of_mem _ hy))
theorem can_edges : ∀ {es : List (Str × Str)}, (∀ e ∈ es, PyData.strOk e.1 = true ∧ PyData.strOk e.2 = true) → PyData.canLayAll0 (es.map dE) = true ∧ PyData.depthAll (es.map dE) ≤ 1
  | [], _ => by simp [PyData.canLayAll0, PyData.depthAll]
  | e :: r, h => by
    obtain ⟨a, b⟩ := can_edges (es := r) fun y hy => h y (List.mem_cons_of_mem _ hy)
    obtain ⟨h1, h2⟩ := h e List.mem_cons_self
    have c : (dE e).canLay0 = true := by simp [dE, PyData.canLay0, PyData.canLayAll0, h1, h2]
    have d : (dE e).depth = 1 := by simp [dE, PyData.depth, PyData.depthAll]
    rw [List.map_cons, PyData.canLayAll0, PyData.depthAll, a, c, d]
    exact ⟨rfl, by omega⟩
theorem shaped_edge {e : Str × Str} (h : PyData.strOk e.1 = true ∧ PyData.strOk e.2 = true) : SeqAt.shaped (dE e) = true := by
  unfold SeqAt.shaped
  simp [dE, PyData.canLay0, PyData.canLayAll0, PyData.depth, PyData.depthAll, h.1, h.2]
theorem shaped_edgesT {es : List (Str × Str)} (h : ∀ e ∈ es, PyData.strOk e.1 = true ∧ PyData.strOk e.2 = true) : SeqAt.shaped (.tuple (es.map dE)) = true := by
  obtain ⟨a, b⟩ := can_edges h
  unfold SeqAt.shaped
  rw [PyData.canLay0, a, PyData.depth, decide_eq_true (by omega)]
  rfl
theorem rd_ninTE {K : PySem.W.Frag} {H : Hp} {Q : VK} {p q : Addr} {e : Str × Str} {es : List (Addr × Str × Str)} (hp : SqT K H p [.str e.1, .str e.2]) (hq : SqT K H q (es.map fun x => V.ref x.1)) (pr : ∀ x ∈ es, SqT K H x.1 [.str x.2.1, .str x.2.2])
    (o1 : PyData.strOk e.1 = true ∧ PyData.strOk e.2 = true) (o2 : ∀ x ∈ es.map (·.2), PyData.strOk x.1 = true ∧ PyData.strOk x.2 = true) (h : Q (.bl (!decide (e ∈ es.map (·.2)))) H) : rNinT K (.ref p) (.ref q) H Q := by
  refine ⟨dE e, _, .tup hp (.cons (.str _) (.cons (.str _) .nil)), .tup hq (dp_edges pr), shaped_edge o1, shaped_edgesT o2, ?_⟩
  rw [any_dE]
  exact h
/-! lists of lists of texts -/
end U


/-! a random problem: the graph, the state, the pins -/
namespace U
open PySem PySem.Spec PyProof.Rows L2
abbrev dP (e : Int × Int) : PyData := .tuple [.int e.1, .int e.2]
theorem eqv_dP {a b : Int × Int} : PyData.eqv (dP a) (dP b) = decide (a = b) := by
  obtain ⟨a1, a2⟩ := a
  obtain ⟨b1, b2⟩ := b
  rw [Bool.eq_iff_iff]
  simp [dP, PyData.eqv, PyData.eqvAll]
theorem any_dP {es : List (Int × Int)} {e : Int × Int} : ((es.map dP).any fun z => PyData.eqv z (dP e)) = decide (e ∈ es) := by
  rw [Bool.eq_iff_iff, List.any_eq_true, decide_eq_true_iff]
  constructor
  · rintro ⟨z, hz, h⟩
    obtain ⟨y, hy, rfl⟩ := List.mem_map.mp hz
    rw [eqv_dP, decide_eq_true_iff] at h
    rw [← h]
    exact hy
  · intro h
    exact ⟨_, List.mem_map_of_mem h, by rw [eqv_dP]; exact decide_eq_true rfl⟩
theorem dp_prs {K : PySem.W.Frag} {H : Hp} : ∀ {es : List (Addr × Int × Int)}, (∀ x ∈ es, SqT K H x.1 [.int x.2.1, .int x.2.2]) → DpAll K H (es.map fun x => V.ref x.1) ((es.map (·.2)).map dP)
  | [], _ => .nil
  | x :: r, h => .cons (.tup (h x List.mem_cons_self) (.cons (.int _) (.cons (.int _) .nil))) (dp_prs fun y hy => h y (List.mem_cons_of_mem _ hy))
theorem can_prs : ∀ {es : List (Int × Int)}, PyData.canLayAll0 (es.map dP) = true ∧ PyData.depthAll (es.map dP) ≤ 1
  | [] => by simp [PyData.canLayAll0, PyData.depthAll]
  | e :: r => by
    obtain ⟨a, b⟩ := can_prs (es := r)
    have c : (dP e).canLay0 = true := by simp [dP, PyData.canLay0, PyData.canLayAll0]
    have d : (dP e).depth = 1 := by simp [dP, PyData.depth, PyData.depthAll]
    rw [List.map_cons, PyData.canLayAll0, PyData.depthAll, a, c, d]
    exact ⟨rfl, by omega⟩
theorem rd_ninLP {K : PySem.W.Frag} {H : Hp} {Q : VK} {p q : Addr} {e : Int × Int} {es : List (Addr × Int × Int)} (hp : SqT K H p [.int e.1, .int e.2]) (hq : SqL K H q (es.map fun x => V.ref x.1)) (pr : ∀ x ∈ es, SqT K H x.1 [.int x.2.1, .int x.2.2])
    (h : Q (.bl (!decide (e ∈ es.map (·.2)))) H) : rNotInD K (.ref p) (.ref q) H Q := by
  refine ⟨dP e, _, .tup hp (.cons (.int _) (.cons (.int _) .nil)), .lst hq (dp_prs pr), ?_, ?_, ?_⟩
  · unfold SeqAt.shaped
    simp [dP, PyData.canLay0, PyData.canLayAll0, PyData.depth, PyData.depthAll]
  · obtain ⟨a, b⟩ := can_prs (es := es.map (·.2))
    unfold SeqAt.shaped
    rw [PyData.canLay0, a, PyData.depth, decide_eq_true (by omega)]
    rfl
  · rw [any_dP]
    exact h
/-- values by names -/
def fV : List Str → List Int → Str → Int
  | w :: ws, v :: vs, x => if x = w then v else fV ws vs x
  | _, _, _ => 0
theorem fV_at : ∀ {ws : List Str} {vs : List Int}, ws.Nodup → ∀ (j : Nat) (h : j < ws.length) (h2 : j < vs.length), fV ws vs ws[j] = vs[j]
  | w :: ws, v :: vs, nd, 0, _, _ => if_pos rfl
  | w :: ws, v :: vs, nd, j + 1, h, h2 => by
    have nd' := List.nodup_cons.mp nd
    have h' : j < ws.length := by simpa using h
    have h2' : j < vs.length := by simpa using h2
    have ne : ws[j] ≠ w := fun z => nd'.1 (z ▸ List.getElem_mem h')
    show (if ws[j] = w then v else fV ws vs ws[j]) = vs[j]
    rw [if_neg ne]
    exact fV_at nd'.2 j h' h2'
theorem getD_l {xs ys : List Int} {i : Nat} (h : i < xs.length) : (xs ++ ys).getD i 0 = xs.getD i 0 := by
  rw [List.getD_eq_getElem?_getD, List.getD_eq_getElem?_getD, List.getElem?_append_left h]
theorem getD_end {xs : List Int} {v : Int} : (xs ++ [v]).getD xs.length 0 = v := by
  rw [List.getD_eq_getElem?_getD, List.getElem?_append_right (Nat.le_refl _), Nat.sub_self]
  rfl
/-- pairs of places, each once, with other values -/
structure PrOk (vals : List Int) (prs : List (Nat × Nat)) : Prop where
  nd : prs.Nodup
  ok : ∀ x ∈ prs, x.1 < x.2 ∧ x.2 < vals.length ∧ vals.getD x.1 0 ≠ vals.getD x.2 0
theorem PrOk.nil {vals : List Int} : PrOk vals [] := ⟨List.nodup_nil, fun x h => nomatch h⟩
theorem PrOk.val {vals : List Int} {prs : List (Nat × Nat)} {v : Int} (h : PrOk vals prs) : PrOk (vals ++ [v]) prs := ⟨h.nd, fun x hx => by
  obtain ⟨a, b, c⟩ := h.ok x hx
  refine ⟨a, by rw [List.length_append]; omega, ?_⟩
  rw [getD_l (by omega), getD_l b]
  exact c⟩
theorem PrOk.add {vals : List Int} {prs : List (Nat × Nat)} {a b : Nat} (h : PrOk vals prs) (n : (a, b) ∉ prs) (h1 : a < b) (h2 : b < vals.length) (h3 : vals.getD a 0 ≠ vals.getD b 0) : PrOk vals (prs ++ [(a, b)]) := by
  refine ⟨?_, fun x hx => ?_⟩
  · rw [List.nodup_append]
    refine ⟨h.nd, by simp, fun x hx y hy e => ?_⟩
    rw [List.mem_singleton] at hy
    subst hy
    subst e
    exact n hx
  · rcases List.mem_append.mp hx with hx | hx
    · exact h.ok x hx
    · rw [List.mem_singleton] at hx
      subst hx
      exact ⟨h1, h2, h3⟩
theorem sort2 {a b : Str} {ys : List Str} (n : a ≠ b) (p : ys.Perm [a, b]) (s : ys.Pairwise fun a b => ¬ sLt b a) : ys = [(eOf a b).1, (eOf a b).2] := by
  have l := p.length_eq
  match ys, l with
  | [y1, y2], _ =>
    have m1 : y1 ∈ [a, b] := p.mem_iff.mp List.mem_cons_self
    have m2 : y2 ∈ [a, b] := p.mem_iff.mp (List.mem_cons_of_mem _ List.mem_cons_self)
    have ndp : [y1, y2].Nodup := p.nodup_iff.mpr (by simp [n])
    have ne : y1 ≠ y2 := by simpa using ndp
    have ns : ¬ sLt y2 y1 := by
      rw [List.pairwise_cons] at s
      exact s.1 y2 (List.mem_singleton.mpr rfl)
    simp only [List.mem_cons, List.not_mem_nil, or_false] at m1 m2
    unfold eOf
    rcases m1 with rfl | rfl <;> rcases m2 with rfl | rfl
    · exact absurd rfl ne
    · rw [if_pos (sLt_total ns ne)]
    · rw [if_neg ns]
    · exact absurd rfl ne
theorem nodup_ix {xs : List Str} (nd : xs.Nodup) {i j : Nat} {hi : i < xs.length} {hj : j < xs.length} (e : xs[i] = xs[j]) : i = j := by
  have h := List.pairwise_iff_getElem.mp (List.nodup_iff_pairwise_ne.mp nd)
  rcases Nat.lt_trichotomy i j with z | z | z
  · exact absurd e (h i j hi hj z)
  · exact z
  · exact absurd e.symm (h j i hj hi z)
theorem getDU {α : Type} {xs : List α} {i : Nat} {d : α} (h : i < xs.length) : xs.getD i d = xs[i] := by
  rw [List.getD_eq_getElem?_getD, List.getElem?_eq_getElem h]
  rfl
end U
namespace Law
open PySem PySem.Spec PyProof.Rows L2 U


abbrev iP (x : Nat × Nat) : Int × Int := ((x.1 : Int), (x.2 : Int))
/-- values and pairs being made -/
structure BK (H0 : Hp) (p vA pA : Addr) (vals : List Int) (prs : List (Addr × Nat × Nat)) (H : Hp) : Prop where
  go : Go p H0 H
  hv : H vA = some (.lst (vals.map V.int))
  hp : H pA = some (.lst (prs.map fun x => V.ref x.1))
  tp : ∀ x ∈ prs, H x.1 = some (.tup [.int (x.2.1 : Nat), .int (x.2.2 : Nat)])
structure BN (H0 : Hp) (p vA pA : Addr) : Prop where
  fv : H0 vA = none
  fp : H0 pA = none
  vp : vA ≠ p
  pp : pA ≠ p
  vq : vA ≠ pA
section
variable {H0 H H2 : Hp} {p vA pA : Addr} {vals : List Int} {prs : List (Addr × Nat × Nat)}
theorem PoolAt.offTB {q : Addr} {xs : List V} (h : PoolAt H p) (hq : H q = some (.tup xs)) : q ≠ p := by
  rintro rfl
  obtain ⟨ys, h⟩ := h.isL
  rw [hq] at h
  cases h
theorem BK.new (b : BK H0 p vA pA vals prs H) {t : Addr} {o : HO} (f : H t = none) : BK H0 p vA pA vals prs (upd H t o) :=
  ⟨b.go.new f, at_upd (ne_of_none b.hv f) b.hv, at_upd (ne_of_none b.hp f) b.hp, fun x hx => at_upd (ne_of_none (b.tp x hx) f) (b.tp x hx)⟩
theorem BK.step (b : BK H0 p vA pA vals prs H) (n : BN H0 p vA pA) (g : Go p H H2) : BK H0 p vA pA vals prs H2 :=
  ⟨b.go.trans g, g.at b.hv n.vp, g.at b.hp n.pp, fun x hx => g.at (b.tp x hx) (b.go.pool.offTB (b.tp x hx))⟩
theorem BK.val (b : BK H0 p vA pA vals prs H) (n : BN H0 p vA pA) {v : Int} : BK H0 p vA pA (vals ++ [v]) prs (upd H vA (.lst (vals.map V.int ++ [.int v]))) :=
  ⟨b.go.put n.fv (Ne.symm n.vp), by rw [upd_same, List.map_append]; rfl, at_upd (Ne.symm n.vq) b.hp, fun x hx => at_upd (ne_of (b.tp x hx) b.hv (by intro z; cases z)) (b.tp x hx)⟩
theorem BK.pair (b : BK H0 p vA pA vals prs H) (n : BN H0 p vA pA) {t : Addr} {x y : Nat} (ht : H t = some (.tup [.int (x : Nat), .int (y : Nat)])) : BK H0 p vA pA vals (prs ++ [(t, x, y)]) (upd H pA (.lst ((prs.map fun x => V.ref x.1) ++ [.ref t]))) :=
  ⟨b.go.put n.fp (Ne.symm n.pp), at_upd n.vq b.hv, by rw [upd_same, List.map_append]; rfl, fun z hz => by
    rcases List.mem_append.mp hz with hz | hz
    · exact at_upd (ne_of (b.tp z hz) b.hp (by intro z; cases z)) (b.tp z hz)
    · rw [List.mem_singleton] at hz
      subst hz
      exact at_upd (ne_of ht b.hp (by intro z; cases z)) ht⟩
end
theorem Go.same {p : Addr} {H H1 H2 : Hp} (a : Go p H H1) (s : Same H1 H2) : Go p H H2 := a.trans (Go.of_same a.pool s)
def PrsAt (H : Hp) (es : List (Addr × Str × Str)) : Prop := ∀ x ∈ es, H x.1 = some (.tup [.str x.2.1, .str x.2.2])
theorem PrsAt.same {H H' : Hp} {es : List (Addr × Str × Str)} (h : PrsAt H es) (s : Same H H') : PrsAt H' es := fun x hx => s _ _ (h x hx)
theorem PrsAt.go {p : Addr} {H H' : Hp} {es : List (Addr × Str × Str)} (h : PrsAt H es) (hp : PoolAt H p) (g : Go p H H') : PrsAt H' es := fun x hx => g.at (h x hx) (hp.offTB (h x hx))
/-- a random problem -/
def spProblem : Sp := fun vs H Q _ => ∃ (p : Addr) (most : Int), vs = [.ref p, .int most] ∧ PoolAt H p ∧ 0 ≤ most ∧ most ≤ 25 ∧
  ∀ (t g n e st ps : Addr) (ns ord pn : List Str) (es : List (Addr × Str × Str)) (f : Str → Int) (H' : Hp), Go p H H' → H t = none → H g = none → H st = none → H ps = none → H' t = some (.tup [.ref g, .ref st, .ref ps]) → GrAt H' g n e ns es → GrOk ns (es.map (·.2)) → ord.Perm ns → (ns.length : Int) ≤ most → es.length ≤ 1000 →
    H' st = some (.dK (kvF ord f)) → (∀ x ∈ ns, 0 ≤ f x ∧ f x < 3) → (∀ x ∈ es, f x.2.1 ≠ f x.2.2) → H' ps = some (.tup (pn.map V.str)) → (∀ x ∈ pn, x ∈ ns) → pn.length ≤ ns.length → Asc pn → Q (.ref t) H'
section
variable {P : Program} {w : World} {K : PySem.W.Frag} {mg : Str → Option Value} {base : Heap}
structure B3a (P : Program) (w : World) (K : PySem.W.Frag) (mg : Str → Option Value) (base : Heap) : Prop where
  _law_draw : Cal P w K mg base CX0 1 "_law_draw" spDraw
  _law_random_names : Cal P w K mg base CX0 3 "_law_random_names" spNamesB
theorem ok_problem {f : Addr} {fd : FuncData} (F : Fun K "_law_random_problem" "_law_random_problem" s__law_random_problem f fd) (B : Bt mg) (C : B3a P w K mg base) : FnG P w K mg base CX0 4 f fd ["_law_source", "_law_most"] spProblem := by
  refine fnG0 F sc__law_random_problem (fun vs H Q E h => ?_) (fun cdv A outer s H vs Q E hr h => ?_)
  · obtain ⟨p, most, rfl, _⟩ := h
    rfl
  · obtain ⟨p, most, rfl, hp0, m0, m1, q⟩ := h
    have nd := sc__law_random_problem.nd
    have hu := hr.u1
    have hu65 : (A.deeper (envOfC "_law_random_problem" (defScope s__law_random_problem) s.heap.objs.size f cdv)).units + 65 < cLine := by
      have := hr.u100
      omega
    refine ⟨_, (pss_cons (ps_set (i := 2) nd rfl (by first | exact Or.inl rfl | exact Or.inr rfl) (pe_lst pa_nil))
  (pss_cons (ps_set (i := 3) nd rfl (by first | exact Or.inl rfl | exact Or.inr rfl) (pe_lst pa_nil))
  (pss_cons (ps_for PassesOwn.never rfl (pi_range1 rfl B.range (pa_cons (pe_c C._law_draw hr (by decide) rfl (pa_cons (pv 0) (pa_cons (pe_op (kAdd K rfl) (pv 1) pe_int) pa_nil))) pa_nil)) (pg_name (i := 4) nd rfl (by first | exact Or.inl rfl | exact Or.inr rfl)) (pss_cons (ps_set (i := 5) nd rfl (by first | exact Or.inl rfl | exact Or.inr rfl) (pe_c C._law_draw hr (by decide) rfl (pa_cons (pv 0) (pa_cons pe_int pa_nil))))
  (pss_cons (ps_set (i := 6) nd rfl (by first | exact Or.inl rfl | exact Or.inr rfl) (pe_c C._law_draw hr (by decide) rfl (pa_cons (pv 0) (pa_cons pe_int pa_nil))))
  (C8.pss_cut (ps_if (PW.pt (pw_and (pt_cmpR uGt (pv 4) pe_int (nomark _)) (pw_and1 (pt_cmpR uGt (pv 6) pe_int (nomark _))))) (C8.pss_cut (ps_set (i := 7) nd rfl (by first | exact Or.inl rfl | exact Or.inr rfl) (pe_ifExp (pt_cmpR uLt (pv 6) pe_int (nomark _)) (pe_op uSub (pv 4) pe_int) (pe_c C._law_draw hr (by decide) rfl (pa_cons (pv 0) (pa_cons (pv 4) pa_nil)))))
  (pss_cons (ps_set (i := 5) nd rfl (by first | exact Or.inl rfl | exact Or.inr rfl) (pe_op uMod (pe_op (kAdd K rfl) (pe_op (kAdd K rfl) (pe_ix (kIx K rfl) (pv 2) (pv 7) (fun _ _ => rfl)) pe_int) (pe_op uMod (pv 5) pe_int)) pe_int))
  (pss_one (ps_expr (pe_bm PySem.F.plainAttrs_list PySem.F.slot_list_append PySem.F.type_list_append mt_append (pv 3) (pa_cons (pe_tup (pa_cons (pv 7) (pa_cons (pv 4) pa_nil))) pa_nil)))))) pss_nil)
  (pss_one (ps_expr (pe_bm PySem.F.plainAttrs_list PySem.F.slot_list_append PySem.F.type_list_append mt_append (pv 2) (pa_cons (pv 5) pa_nil))))))))
  (pss_cons (ps_set (i := 8) nd rfl (by first | exact Or.inl rfl | exact Or.inr rfl) (pe_c C._law_draw hr (by decide) rfl (pa_cons (pv 0) (pa_cons pe_int pa_nil))))
  (pss_cons (ps_for PassesOwn.never rfl (pi_range1 rfl B.range (pa_cons (pe_callB (kLen K rfl) (by rfl) B.len bb_len (pa_cons (pv 2) pa_nil)) pa_nil)) (pg_name (i := 4) nd rfl (by first | exact Or.inl rfl | exact Or.inr rfl)) (pss_one (ps_for PassesOwn.never rfl (pi_range1 rfl B.range (pa_cons (pv 4) pa_nil)) (pg_name (i := 7) nd rfl (by first | exact Or.inl rfl | exact Or.inr rfl)) (pss_one (ps_if (PW.pt (pw_and (pt_cmpR (kNinL K rfl hu65) (pe_tup (pa_cons (pv 7) (pa_cons (pv 4) pa_nil))) (pv 3) rfl) (pw_and (pt_cmpR (kNe K rfl hr.u64) (pe_ix (kIx K rfl) (pv 2) (pv 7) (fun _ _ => rfl)) (pe_ix (kIx K rfl) (pv 2) (pv 4) (fun _ _ => rfl)) (nomark _)) (pw_and1 (pt_cmpR uLt (pe_c C._law_draw hr (by decide) rfl (pa_cons (pv 0) (pa_cons pe_int pa_nil))) (pv 8) (nomark _)))))) (pss_one (ps_expr (pe_bm PySem.F.plainAttrs_list PySem.F.slot_list_append PySem.F.type_list_append mt_append (pv 3) (pa_cons (pe_tup (pa_cons (pv 7) (pa_cons (pv 4) pa_nil))) pa_nil)))) pss_nil)))))
  (pss_cons (ps_set (i := 9) nd rfl (by first | exact Or.inl rfl | exact Or.inr rfl) (pe_c C._law_random_names hr (by decide) rfl (pa_cons (pv 0) (pa_cons (pe_callB (kLen K rfl) (by rfl) B.len bb_len (pa_cons (pv 2) pa_nil)) pa_nil))))
  (pss_cons (ps_set (i := 10) nd rfl (by first | exact Or.inl rfl | exact Or.inr rfl) (pe_callB (kSorted K rfl hr.u64) (by rfl) B.sorted bb_sorted (pa_cons (pe_lc (own := [("_law_one", 11), ("_law_other", 12)]) rfl nd (ki_list K rfl (pv 3)) (blkOk_by (own := [("_law_one", 11), ("_law_other", 12)]) (N := nN__law_random_problem) (sc := defScope s__law_random_problem) (by decide +kernel)) (fun _ _ _ _ _ => (kg_tup (n := 2) K rfl rfl (pgs_cons (pg_name (i := 11) nd rfl (by first | exact Or.inl rfl | exact Or.inr rfl)) (pgs_cons (pg_name (i := 12) nd rfl (by first | exact Or.inl rfl | exact Or.inr rfl)) pgs_nil)))) (fun _ _ _ _ _ => pts_nil) (fun _ _ _ _ _ => (pe_callTy (kTuple K rfl) (by rfl) B.tuple bb_tuple (pa_cons (pe_callB (kSorted K rfl hr.u64) (by rfl) B.sorted bb_sorted (pa_cons (pe_lst (pa_cons (pe_ix (kIx K rfl) (pv 9) (pv 11) (fun _ _ => rfl)) (pa_cons (pe_ix (kIx K rfl) (pv 9) (pv 12) (fun _ _ => rfl)) pa_nil))) pa_nil)) pa_nil)))) pa_nil)))
  (pss_cons (ps_set (i := 13) nd rfl (by first | exact Or.inl rfl | exact Or.inr rfl) pe_dnewK)
  (pss_cons (ps_for PassesOwn.never rfl (pi_range1 rfl B.range (pa_cons (pe_callB (kLen K rfl) (by rfl) B.len bb_len (pa_cons (pv 9) pa_nil)) pa_nil)) (pg_name (i := 4) nd rfl (by first | exact Or.inl rfl | exact Or.inr rfl)) (pss_one (ps_dput hu (pv 13) (pe_ix (kIx K rfl) (pv 9) (pv 4) (fun _ _ => rfl)) (pe_ix (kIx K rfl) (pv 2) (pv 4) (fun _ _ => rfl)) rfl)))
  (pss_cons (ps_set (i := 14) nd rfl (by first | exact Or.inl rfl | exact Or.inr rfl) (pe_c C._law_draw hr (by decide) rfl (pa_cons (pv 0) (pa_cons pe_int pa_nil))))
  (pss_cons (ps_setLc (i := 15) (own := [("_law_word", 16)]) rfl nd rfl rfl (sw_true rfl rfl rfl (by decide +kernel)) (ki_list K rfl (pe_callB (kSorted K rfl hr.u64) (by rfl) B.sorted bb_sorted (pa_cons (pv 9) pa_nil))) (blkOk_by (own := [("_law_word", 16)]) (N := nN__law_random_problem) (sc := defScope s__law_random_problem) (by decide +kernel)) (fun _ _ _ _ _ => (pg_name (i := 16) nd rfl (by first | exact Or.inl rfl | exact Or.inr rfl))) (fun _ _ _ _ _ => (pts_one (PW.pt (pw_and (pt_cmpR uGt (pv 14) pe_int (nomark _)) (pw_and1 (pt_cmpR (kEq K rfl hr.u64) (pe_c C._law_draw hr (by decide) rfl (pa_cons (pv 0) (pa_cons pe_int pa_nil))) pe_int (nomark _))))))) (fun _ _ _ _ _ => (pv 16)))
  (pss_one (ps_ret (pe_tup (pa_cons (pe_tup (pa_cons (pe_callTy (kTuple K rfl) (by rfl) B.tuple bb_tuple (pa_cons (pe_callB (kSorted K rfl hr.u64) (by rfl) B.sorted bb_sorted (pa_cons (pv 9) pa_nil)) pa_nil)) (pa_cons (pe_callTy (kTuple K rfl) (by rfl) B.tuple bb_tuple (pa_cons (pv 10) pa_nil)) pa_nil))) (pa_cons (pv 13) (pa_cons (pe_callTy (kTuple K rfl) (by rfl) B.tuple bb_tuple (pa_cons (pv 15) pa_nil)) pa_nil))))))))))))))))), ?_⟩
    wtm_at "rd"
    intro vA fvA
    have g1 := (Go.refl hp0).new (o := .lst []) fvA
    have hvA := @upd_same H vA (.lst [])
    have nvp := hp0.ne fvA
    generalize upd H vA (.lst []) = H1 at g1 hvA
    wtm_at "rd"
    intro pA fpA
    have bn : BN H p vA pA := ⟨fvA, g1.free _ fpA, Ne.symm nvp, Ne.symm (g1.pool.ne fpA), ne_of_none hvA fpA⟩
    have b2 : BK H p vA pA [] [] (upd H1 pA (.lst [])) := ⟨g1.new fpA, at_upd (ne_of_none hvA fpA) hvA, upd_same, fun x h => nomatch h⟩
    generalize upd H1 pA (.lst []) = H2 at b2
    clear fpA hvA g1 fvA
    wtm_at "rd"
    refine use_draw b2.go.pool (by omega) (by omega) fun many H3 c0 c1 g => ?_
    have b3 := b2.step bn g
    clear b2 g
    wtm_at "rd"
    refine turnsR (fun i σ H' => ∃ (vals : List Int) (prs : List (Addr × Nat × Nat)) (us : List (Option V)), us.length = 13 ∧ σ = some (.ref p) :: some (.int most) :: some (.ref vA) :: some (.ref pA) :: us ∧ BK H p vA pA vals prs H' ∧ vals.length = i ∧ (∀ v ∈ vals, 0 ≤ v ∧ v < 3) ∧ PrOk vals (prs.map (·.2)) ∧ prs.length ≤ i) ⟨[], [], _, by decide, rfl, b3, rfl, (fun v h => nomatch h), .nil, Nat.le_refl _⟩ ?_ ?_
    · rintro i σ H' hi ⟨vals, prs, us, lu, rfl, bk, hvl, v3, po, pl⟩
      obtain ⟨u4, u5, u6, u7, u8, u9, u10, u11, u12, u13, u14, u15, u16, rfl⟩ : ∃ u4 u5 u6 u7 u8 u9 u10 u11 u12 u13 u14 u15 u16, us = [u4, u5, u6, u7, u8, u9, u10, u11, u12, u13, u14, u15, u16] := by
        match us, lu with
        | [u4, u5, u6, u7, u8, u9, u10, u11, u12, u13, u14, u15, u16], _ => exact ⟨_, _, _, _, _, _, _, _, _, _, _, _, _, rfl⟩
      wtm_at "rd"
      refine use_draw bk.go.pool (by decide) (by decide) fun v Ha v0 v1 g => ?_
      have bk := bk.step bn g
      wtm_at "rd"
      refine use_draw bk.go.pool (by decide) (by decide) fun d Hb d0 d1 g => ?_
      have bk := bk.step bn g
      wtm_at "rd"
      refine ⟨fun σ' H2 => ∃ (v' : Int) (u7 : Option V) (prs' : List (Addr × Nat × Nat)), σ' = [some (.ref p), some (.int most), some (.ref vA), some (.ref pA), some (.int (0 + (i : Int))), some (.int v'), some (.int d), u7, u8, u9, u10, u11, u12, u13, u14, u15, u16] ∧ BK H p vA pA vals prs' H2 ∧ 0 ≤ v' ∧ v' < 3 ∧ PrOk (vals ++ [v']) (prs'.map (·.2)) ∧ prs'.length ≤ i + 1, ?_, ?_⟩
      · wtm_at "rd"
        refine rd_split (fun c1 => ?_) (fun c1 => ?_)
        · wtm_at "rd"
          refine rd_split (fun c2 => ?_) (fun c2 => ?_)
          · wtm_at "rd"
            refine ⟨fun σ' H2 => ∃ j : Nat, j < i ∧ σ' = [some (.ref p), some (.int most), some (.ref vA), some (.ref pA), some (.int (0 + (i : Int))), some (.int v), some (.int d), some (.int j), u8, u9, u10, u11, u12, u13, u14, u15, u16] ∧ BK H p vA pA vals prs H2, ?_, ?_⟩
            · wtm_at "rd"
              refine rd_split (fun c3 => ?_) (fun c3 => ?_)
              · wtm_at "rd"
                exact ⟨i - 1, by omega, by rw [show (0 + (i : Int) - 1) = ((i - 1 : Nat) : Int) from by omega]; rfl, bk⟩
              · wtm_at "rd"
                refine use_draw bk.go.pool (by omega) (by omega) fun r Hc r0 r1 g => ?_
                exact ⟨r.toNat, by omega, by rw [show r = (r.toNat : Int) from by omega]; rfl, bk.step bn g⟩
            rintro σ' Hc ⟨j, hj, rfl, bk⟩
            have hjv : j < vals.length := by omega
            wtm_at "rd"
            refine rd_ixL (SqL.of bk.hv) (v := .int vals[j]) (atI_nat (by rw [List.getElem?_map, List.getElem?_eq_getElem hjv]; rfl)) ?_
            have vj := v3 _ (List.getElem_mem hjv)
            have eg : vals.getD j 0 = vals[j] := getDU hjv
            generalize vals[j] = x at *
            wtm_at "rd"
            refine rd_tyL bk.hp ?_
            wtm_at "rd"
            intro t ft
            have e0 : (0 + (i : Int)) = (i : Int) := Int.zero_add _
            rw [e0]
            have bk := bk.new (o := .tup [.int (j : Nat), .int (i : Nat)]) ft
            have ht := @upd_same Hc t (.tup [.int (j : Nat), .int (i : Nat)])
            generalize upd Hc t (.tup [.int (j : Nat), .int (i : Nat)]) = Hd at bk ht
            wtm_at "rd"
            refine rd_append bk.hp (by rw [List.length_map]; omega) ?_
            refine ⟨_, _, prs ++ [(t, j, i)], rfl, bk.pair bn ht, by omega, by omega, ?_, by rw [List.length_append]; exact Nat.add_le_add_right pl 1⟩
            rw [List.map_append]
            refine po.val.add (fun z => ?_) hj (by rw [List.length_append, hvl]; exact Nat.lt_succ_self _) ?_
            · obtain ⟨_, z2, _⟩ := po.ok _ z
              omega
            · rw [getD_l hjv, eg, ← hvl, getD_end]
              omega
          · wtm_at "rd"
            exact ⟨_, _, _, rfl, bk, v0, v1, po.val, by omega⟩
        · wtm_at "rd"
          exact ⟨_, _, _, rfl, bk, v0, v1, po.val, by omega⟩
      rintro σ' Hc ⟨v', u7, prs', rfl, bk, v0', v1', po', pl'⟩
      wtm_at "rd"
      refine rd_tyL bk.hv ?_
      wtm_at "rd"
      refine rd_append bk.hv (by rw [List.length_map]; omega) ?_
      refine ⟨vals ++ [v'], prs', _, by rfl, rfl, bk.val bn, by rw [List.length_append, hvl]; rfl, fun z hz => ?_, po', pl'⟩
      rcases List.mem_append.mp hz with hz | hz
      · exact v3 z hz
      · rw [List.mem_singleton] at hz
        omega
    rintro σ H4 ⟨vals, prs, us, lu, rfl, bk, hvl, v3, po, pl⟩
    obtain ⟨u4, u5, u6, u7, u8, u9, u10, u11, u12, u13, u14, u15, u16, rfl⟩ : ∃ u4 u5 u6 u7 u8 u9 u10 u11 u12 u13 u14 u15 u16, us = [u4, u5, u6, u7, u8, u9, u10, u11, u12, u13, u14, u15, u16] := by
      match us, lu with
      | [u4, u5, u6, u7, u8, u9, u10, u11, u12, u13, u14, u15, u16], _ => exact ⟨_, _, _, _, _, _, _, _, _, _, _, _, _, rfl⟩
    have vl25 : vals.length ≤ 25 := by omega
    wtm_at "rd"
    refine use_draw bk.go.pool (by decide) (by decide) fun dens Ha _ _ g => ?_
    have bk := bk.step bn g
    wtm_at "rd"
    refine rd_lenL (SqL.of bk.hv) ?_
    rw [List.length_map]
    wtm_at "rd"
    refine turnsR (fun i σ H' => ∃ (prs : List (Addr × Nat × Nat)) (u4 u7 : Option V), σ = [some (.ref p), some (.int most), some (.ref vA), some (.ref pA), u4, u5, u6, u7, some (.int dens), u9, u10, u11, u12, u13, u14, u15, u16] ∧ BK H p vA pA vals prs H' ∧ PrOk vals (prs.map (·.2)) ∧ prs.length ≤ 25 + 25 * i) ⟨prs, _, _, rfl, bk, po, by omega⟩ ?_ ?_
    · rintro i σ H' hi ⟨prs, u4, u7, rfl, bk, po, pl⟩
      have hi : i < vals.length := by omega
      wtm_at "rd"
      refine turnsR (fun j σ H' => ∃ (prs : List (Addr × Nat × Nat)) (u7 : Option V), σ = [some (.ref p), some (.int most), some (.ref vA), some (.ref pA), some (.int (0 + (i : Int))), u5, u6, u7, some (.int dens), u9, u10, u11, u12, u13, u14, u15, u16] ∧ BK H p vA pA vals prs H' ∧ PrOk vals (prs.map (·.2)) ∧ prs.length ≤ 25 + 25 * i + j) ⟨prs, _, rfl, bk, po, by omega⟩ ?_ ?_
      · rintro j σ H' hj ⟨prs, u7, rfl, bk, po, pl⟩
        have hj : j < i := by omega
        have hjv : j < vals.length := by omega
        have e0 : (0 + (i : Int)) = (i : Int) := Int.zero_add _
        have e1 : (0 + (j : Int)) = (j : Int) := Int.zero_add _
        rw [e0, e1]
        wtm_at "rd"
        intro t ft
        have bk := bk.new (o := .tup [.int (j : Nat), .int (i : Nat)]) ft
        have ht := @upd_same H' t (.tup [.int (j : Nat), .int (i : Nat)])
        generalize upd H' t (.tup [.int (j : Nat), .int (i : Nat)]) = Hb at bk ht
        wtm_at "rd"
        refine rd_ninLP (K := K) (e := ((j : Int), (i : Int))) (es := prs.map fun x => (x.1, iP x.2)) (SqT.of ht) (SqL.of (by rw [List.map_map]; exact bk.hp)) (fun x hx => by
          obtain ⟨y, hy, rfl⟩ := List.mem_map.mp hx
          exact SqT.of (bk.tp y hy)) ?_
        have emem : (((j : Int), (i : Int)) ∈ (prs.map fun x => (x.1, iP x.2)).map (·.2)) ↔ (j, i) ∈ prs.map (·.2) := by
          rw [List.map_map]
          constructor
          · intro z
            obtain ⟨y, hy, e⟩ := List.mem_map.mp z
            have e' : iP y.2 = ((j : Int), (i : Int)) := e
            have a1 := congrArg Prod.fst e'
            have a2 := congrArg Prod.snd e'
            have b1 : y.2.1 = j := by have : (y.2.1 : Int) = (j : Int) := a1; omega
            have b2 : y.2.2 = i := by have : (y.2.2 : Int) = (i : Int) := a2; omega
            exact List.mem_map.mpr ⟨y, hy, Prod.ext b1 b2⟩
          · intro z
            obtain ⟨y, hy, e⟩ := List.mem_map.mp z
            refine List.mem_map.mpr ⟨y, hy, ?_⟩
            show iP y.2 = _
            rw [e]
        wtm_at "rd"
        refine rd_nsplit (fun c1 => ?_) (fun c1 => ?_)
        · wtm_at "rd"
          refine rd_ixL (SqL.of bk.hv) (v := .int vals[j]) (atI_nat (by rw [List.getElem?_map, List.getElem?_eq_getElem hjv]; rfl)) ?_
          wtm_at "rd"
          refine rd_ixL (SqL.of bk.hv) (v := .int vals[i]) (atI_nat (by rw [List.getElem?_map, List.getElem?_eq_getElem hi]; rfl)) ?_
          wtm_at "rd"
          refine rd_nsplit (fun c2 => ?_) (fun c2 => ?_)
          · wtm_at "rd"
            refine use_draw bk.go.pool (by decide) (by decide) fun r Hc _ _ g => ?_
            have bk2 := bk.step bn g
            have ht2 := g.at ht (bk.go.pool.offTB ht)
            wtm_at "rd"
            refine rd_split (fun c3 => ?_) (fun c3 => ?_)
            · wtm_at "rd"
              refine rd_tyL bk2.hp ?_
              wtm_at "rd"
              intro t2 ft2
              have bk3 := bk2.new (o := .tup [.int (j : Nat), .int (i : Nat)]) ft2
              have ht3 := @upd_same Hc t2 (.tup [.int (j : Nat), .int (i : Nat)])
              generalize upd Hc t2 (.tup [.int (j : Nat), .int (i : Nat)]) = Hd at bk3 ht3
              wtm_at "rd"
              refine rd_append bk3.hp (by rw [List.length_map]; omega) ?_
              refine ⟨prs ++ [(t2, j, i)], _, rfl, bk3.pair bn ht3, ?_, by rw [List.length_append, List.length_singleton]; omega⟩
              rw [List.map_append]
              refine po.add (fun z => c1 (emem.mpr z)) hj hi ?_
              rw [getDU hjv, getDU hi]
              exact c2
            · wtm_at "rd"
              exact ⟨_, _, rfl, bk2, po, by omega⟩
          · wtm_at "rd"
            exact ⟨_, _, rfl, bk, po, by omega⟩
        · wtm_at "rd"
          exact ⟨_, _, rfl, bk, po, by omega⟩
      · rintro σ H' ⟨prs, u7, rfl, bk, po, pl⟩
        exact ⟨prs, _, _, rfl, bk, po, by omega⟩
    rintro σ H5 ⟨prs, u4, u7, rfl, bk, po, pl⟩
    have pl : prs.length ≤ 700 := by omega
    wtm_at "rd"
    refine rd_lenL (SqL.of bk.hv) ?_
    rw [List.length_map]
    wtm_at "rd"
    refine ⟨p, _, rfl, by omega, by omega, bk.go.pool, fun wA ws H6 g fwA hwA nu lw => ?_⟩
    have nwp := (bk.go.pool.ne fwA).symm
    have bk := bk.step bn g
    have lw : ws.length = vals.length := by omega
    clear g fwA
    wtm_at "rd"
    refine rd_forL (SqL.of bk.hp) ?_
    intro D fD
    refine lcL (K := K) (xs := prs.map fun x => V.ref x.1) (fun i H' => ∃ es : List (Addr × Str × Str), Same H6 H' ∧ H' D = some (.lst (es.map fun x => V.ref x.1)) ∧ PrsAt H' es ∧ es.map (·.2) = ((prs.take i).map fun x => eOf (ws.getD x.2.1 "") (ws.getD x.2.2 ""))) ⟨[], Same.new fD, upd_same, (fun x h => nomatch h), rfl⟩ ?_ ?_ ?_
    · rintro i H' hi ⟨es, sb, _⟩
      exact SqL.of (sb _ _ bk.hp)
    · rintro i y H' hy ⟨es, sb, hD, tp, em⟩
      obtain ⟨hi, rfl⟩ := map_at hy
      have pin := List.getElem_mem hi
      have ht := sb _ _ (bk.tp _ pin)
      have tk : prs.take (i + 1) = prs.take i ++ [prs[i]] := by
        rw [List.take_succ, List.getElem?_eq_getElem hi]
        rfl
      have le : es.length ≤ 700 := by
        have := congrArg List.length em
        rw [List.length_map, List.length_map, List.length_take] at this
        omega
      obtain ⟨x1, x2, x3⟩ := po.ok _ (List.mem_map_of_mem (f := fun x : Addr × Nat × Nat => x.2) pin)
      rcases hx : prs[i] with ⟨xa, a, b⟩
      rw [hx] at ht x1 x2 x3 tk
      dsimp only at ht x1 x2 x3 ⊢
      have ha : a < ws.length := by rw [lw]; exact Nat.lt_trans x1 x2
      have hb : b < ws.length := by rw [lw]; exact x2
      have ne : ws[a] ≠ ws[b] := fun z => by
        have := nodup_ix nu.nd z
        have x1 : a < b := x1
        omega
      refine rd_unp (SqT.of (xs := [.int (a : Nat), .int (b : Nat)]) ht) rfl ?_
      wtm_at "rd"
      refine rd_ixL (SqL.of (sb _ _ hwA)) (v := .str ws[a]) (atI_nat (by rw [List.getElem?_map, List.getElem?_eq_getElem ha]; rfl)) ?_
      wtm_at "rd"
      refine rd_ixL (SqL.of (sb _ _ hwA)) (v := .str ws[b]) (atI_nat (by rw [List.getElem?_map, List.getElem?_eq_getElem hb]; rfl)) ?_
      wtm_at "rd"
      intro t1 ft1
      have k1 := Same.new (o := .lst [.str ws[a], .str ws[b]]) ft1
      wtm_at "rd"
      refine rd_sortS (xs := [ws[a], ws[b]]) (SqL.of upd_same) (by show 2 ≤ 100000; decide) ?_
      intro ys py sy t2 ft2
      have k2 := Same.new (o := .lst (ys.map V.str)) ft2
      wtm_at "rd"
      refine rd_tupleL (SqL.of upd_same) ?_
      intro t3 ft3
      have k3 := Same.new (o := .tup (ys.map V.str)) ft3
      have sA := (k1.trans k2).trans k3
      have h3 := @upd_same (upd (upd H' t1 (.lst [.str ws[a], .str ws[b]])) t2 (.lst (ys.map V.str))) t3 (.tup (ys.map V.str))
      generalize upd (upd (upd H' t1 (.lst [.str ws[a], .str ws[b]])) t2 (.lst (ys.map V.str))) t3 (.tup (ys.map V.str)) = Ha at sA h3
      rw [sort2 ne py sy] at h3
      refine rd_acc (sA _ _ hD) (by rw [List.length_map]; omega) ?_
      have hDa := sA _ _ hD
      refine ⟨es ++ [(t3, eOf ws[a] ws[b])], same_put (sb.trans sA) fD, by rw [upd_same, List.map_append]; rfl, fun z hz => ?_, ?_⟩
      · rcases List.mem_append.mp hz with hz | hz
        · exact at_upd (ne_of (sA _ _ (tp z hz)) hDa (by intro z; cases z)) (sA _ _ (tp z hz))
        · rw [List.mem_singleton] at hz
          subst hz
          exact at_upd (ne_of h3 hDa (by intro z; cases z)) h3
      · rw [tk, List.map_append, List.map_append, em]
        show _ = _ ++ [eOf (ws.getD a "") (ws.getD b "")]
        rw [getDU ha, getDU hb]
        rfl
    rintro H7 ⟨es, s7, hD, tp, em⟩
    rw [List.length_map, List.take_length] at em
    have el : es.length ≤ 700 := by
      have := congrArg List.length em
      rw [List.length_map, List.length_map] at this
      omega
    have g7 := bk.go.same s7
    have hw := s7 _ _ hwA
    have hv := s7 _ _ bk.hv
    clear hwA bk s7 fD
    wtm_at "rd"
    refine rd_sortE (SqL.of hD) (fun x hx => SqT.of (tp x hx)) (by omega) ?_
    intro es2 pe se
    have tp : PrsAt H7 es2 := fun x hx => tp x (pe.mem_iff.mp hx)
    intro eA feA
    have nep := (g7.pool.ne feA).symm
    have k := Same.new (o := .lst (es2.map fun x => V.ref x.1)) feA
    have he := @upd_same H7 eA (.lst (es2.map fun x => V.ref x.1))
    have hw := k _ _ hw
    have hv := k _ _ hv
    have tp := tp.same k
    have g7 := g7.same k
    generalize upd H7 eA (.lst (es2.map fun x => V.ref x.1)) = H8 at he hw hv tp g7
    clear k feA hD
    wtm_at "rd"
    intro stA fst
    have nsp := (g7.pool.ne fst).symm
    have nws := ne_of_none hw fst
    have nvs := ne_of_none hv fst
    have nes := ne_of_none he fst
    have fst0 := g7.free _ fst
    have k := Same.new (o := .dK []) fst
    have hs := @upd_same H8 stA (.dK [])
    have hw := k _ _ hw
    have hv := k _ _ hv
    have he := k _ _ he
    have tp := tp.same k
    have g7 := g7.same k
    generalize upd H8 stA (.dK []) = H9 at he hw hv tp g7 hs
    clear k fst
    wtm_at "rd"
    refine rd_lenL (SqL.of hw) ?_
    rw [List.length_map]
    wtm_at "rd"
    refine turnsR (fun i σ H' => ∃ u4 : Option V, σ = [some (.ref p), some (.int most), some (.ref vA), some (.ref pA), u4, u5, u6, u7, some (.int dens), some (.ref wA), some (.ref eA), u11, u12, some (.ref stA), u14, u15, u16] ∧ Go p H H' ∧ But stA H9 H' ∧ H' stA = some (.dK (kvF (ws.take i) (fV ws vals)))) ⟨_, rfl, g7, But.refl, hs⟩ ?_ ?_
    · rintro i σ H' hi ⟨u4, rfl, g, bt, hs⟩
      have hi : i < ws.length := by omega
      have hiv : i < vals.length := by omega
      have e0 : (0 + (i : Int)) = (i : Int) := Int.zero_add _
      rw [e0]
      wtm_at "rd"
      refine rd_ixL (SqL.of (bt _ _ nvs hv)) (v := .int vals[i]) (atI_nat (by rw [List.getElem?_map, List.getElem?_eq_getElem hiv]; rfl)) ?_
      wtm_at "rd"
      refine rd_ixL (SqL.of (bt _ _ nws hw)) (v := .str ws[i]) (atI_nat (by rw [List.getElem?_map, List.getElem?_eq_getElem hi]; rfl)) ?_
      refine rd_dset hs (k := .inr ws[i]) rfl (by rw [List.length_map, List.length_take]; omega) ?_
      refine ⟨_, rfl, g.put fst0 (Ne.symm nsp), bt.trans But.upd, ?_⟩
      have nin : ws[i] ∉ ws.take i := fun z => by
        obtain ⟨j, hj, e⟩ := List.mem_iff_getElem.mp z
        rw [List.getElem_take] at e
        rw [List.length_take] at hj
        have := nodup_ix nu.nd e
        omega
      rw [upd_same, kvF_new nin, show ws.take (i + 1) = ws.take i ++ [ws[i]] from by rw [List.take_succ, List.getElem?_eq_getElem hi]; rfl]
      congr 2
      refine kvF_congr fun x hx => ?_
      unfold updf
      split
      · rename_i c
        rw [c]
        exact (fV_at nu.nd i hi hiv).symm
      · rfl
    rintro σ H10 ⟨u4, rfl, g, bt, hs⟩
    rw [show ((ws.length : Int)).toNat = ws.length from rfl, List.take_length] at hs
    have hw := bt _ _ nws hw
    have he := bt _ _ nes he
    have tp : PrsAt H10 es2 := fun x hx => bt _ _ (ne_of (tp x hx) (by assumption) (by intro z; cases z)) (tp x hx)
    clear bt hv
    wtm_at "rd"
    refine use_draw g.pool (by decide) (by decide) fun share H11 _ _ gd => ?_
    have hw := gd.at hw nwp
    have he := gd.at he nep
    have hs := gd.at hs nsp
    have tp := tp.go g.pool gd
    have g := g.trans gd
    clear gd
    wtm_at "rd"
    refine rd_sortS (SqL.of hw) (by omega) ?_
    intro ns1 pn1 sn1 l1 fl1
    have nl1 := (g.pool.ne fl1).symm
    have k := Same.new (o := .lst (ns1.map V.str)) fl1
    have hl1 := @upd_same H11 l1 (.lst (ns1.map V.str))
    have hw := k _ _ hw
    have he := k _ _ he
    have hs := k _ _ hs
    have tp := tp.same k
    have g := g.same k
    generalize upd H11 l1 (.lst (ns1.map V.str)) = H12 at hl1 hw he hs tp g
    clear k fl1
    wtm_at "rd"
    refine rd_forL (SqL.of hl1) ?_
    intro D2 fD2
    have nD2p := g.pool.ne fD2
    refine lcL (K := K) (xs := ns1.map V.str) (fun i H' => ∃ pn : List Str, pn.Sublist (ns1.take i) ∧ Go p H12 H' ∧ H' D2 = some (.lst (pn.map V.str))) ⟨[], .slnil, (Go.refl g.pool).new fD2, upd_same⟩ ?_ ?_ ?_
    · rintro i H' hi ⟨pn, _, ga, _⟩
      exact SqL.of (ga.at hl1 nl1)
    · rintro i y H' hy ⟨pn, sl, ga, hD2⟩
      obtain ⟨hi, rfl⟩ := map_at hy
      have lp := sl.length_le
      rw [List.length_take] at lp
      have ln1 := pn1.length_eq
      have tk : ns1.take (i + 1) = ns1.take i ++ [ns1[i]] := by
        rw [List.take_succ, List.getElem?_eq_getElem hi]
        rfl
      have skip : pn.Sublist (ns1.take (i + 1)) := by
        rw [tk]
        exact sl.trans (List.sublist_append_left _ _)
      wtm_at "rd"
      refine rd_split (fun c1 => ?_) (fun c1 => ?_)
      · wtm_at "rd"
        refine use_draw ga.pool (by decide) (by decide) fun r Hb _ _ gb => ?_
        have hD3 := gb.at hD2 (Ne.symm nD2p)
        have gc := ga.trans gb
        wtm_at "rd"
        refine rd_split (fun c2 => ?_) (fun c2 => ?_)
        · wtm_at "rd"
          refine rd_acc hD3 (by rw [List.length_map]; omega) ?_
          refine ⟨pn ++ [ns1[i]], ?_, gc.put fD2 nD2p, by rw [upd_same, List.map_append]; rfl⟩
          rw [tk]
          exact sl.append (List.Sublist.refl _)
        · exact ⟨pn, skip, gc, hD3⟩
      · wtm_at "rd"
        exact ⟨pn, skip, ga, hD2⟩
    rintro H13 ⟨pn, sl, ga, hD2⟩
    rw [List.length_map, List.take_length] at sl
    have hw := ga.at hw nwp
    have he := ga.at he nep
    have hs := ga.at hs nsp
    have tp := tp.go g.pool ga
    have g := g.trans ga
    clear ga hl1 fD2
    wtm_at "rd"
    refine rd_sortS (SqL.of hw) (by omega) ?_
    intro ns pn2 sn
    intro l2 fl2
    have kl2 := Same.new (o := .lst (ns.map V.str)) fl2
    have hl2 := @upd_same H13 l2 (.lst (ns.map V.str))
    have he := kl2 _ _ he
    have hs := kl2 _ _ hs
    have hD2 := kl2 _ _ hD2
    have tp := tp.same kl2
    have g := g.same kl2
    generalize upd H13 l2 (.lst (ns.map V.str)) = H14 at hl2 he hs hD2 tp g
    clear kl2 fl2
    wtm_at "rd"
    refine rd_tupleL (SqL.of hl2) ?_
    intro n fn
    have kn := Same.new (o := .tup (ns.map V.str)) fn
    have hn := @upd_same H14 n (.tup (ns.map V.str))
    have he := kn _ _ he
    have hs := kn _ _ hs
    have hD2 := kn _ _ hD2
    have tp := tp.same kn
    have g := g.same kn
    generalize upd H14 n (.tup (ns.map V.str)) = H15 at hn he hs hD2 tp g
    clear kn fn
    wtm_at "rd"
    refine rd_tupleL (SqL.of he) ?_
    intro e fe
    have ke := Same.new (o := .tup (es2.map fun x => V.ref x.1)) fe
    have he := @upd_same H15 e (.tup (es2.map fun x => V.ref x.1))
    have hn := ke _ _ hn
    have hs := ke _ _ hs
    have hD2 := ke _ _ hD2
    have tp := tp.same ke
    have g := g.same ke
    generalize upd H15 e (.tup (es2.map fun x => V.ref x.1)) = H16 at he hn hs hD2 tp g
    clear ke fe
    wtm_at "rd"
    intro gr fgr
    have fgr0 := g.free _ fgr
    have k := Same.new (o := .tup [.ref n, .ref e]) fgr
    have hgr := @upd_same H16 gr (.tup [.ref n, .ref e])
    have hn := k _ _ hn
    have he := k _ _ he
    have hs := k _ _ hs
    have hD2 := k _ _ hD2
    have tp := tp.same k
    have g := g.same k
    generalize upd H16 gr (.tup [.ref n, .ref e]) = H17 at hgr hn he hs hD2 tp g
    clear k fgr
    wtm_at "rd"
    refine rd_tupleL (SqL.of hD2) ?_
    intro ps fps
    have fps0 := g.free _ fps
    have k := Same.new (o := .tup (pn.map V.str)) fps
    have hps := @upd_same H17 ps (.tup (pn.map V.str))
    have hn := k _ _ hn
    have he := k _ _ he
    have hs := k _ _ hs
    have hgr := k _ _ hgr
    have tp := tp.same k
    have g := g.same k
    generalize upd H17 ps (.tup (pn.map V.str)) = H18 at hps hgr hn he hs tp g
    clear k fps
    wtm_at "rd"
    intro t ft
    have ft0 := g.free _ ft
    have k := Same.new (o := .tup [.ref gr, .ref stA, .ref ps]) ft
    have ht := @upd_same H18 t (.tup [.ref gr, .ref stA, .ref ps])
    have hn := k _ _ hn
    have he := k _ _ he
    have hs := k _ _ hs
    have hgr := k _ _ hgr
    have hps := k _ _ hps
    have tp := tp.same k
    have g := g.same k
    generalize upd H18 t (.tup [.ref gr, .ref stA, .ref ps]) = H19 at ht hps hgr hn he hs tp g
    clear k ft
    have nn := nu.perm pn2
    have nn1 := nu.perm pn1
    have inE : ∀ x ∈ es2, ∃ a b, ∃ (ha : a < ws.length) (hb : b < ws.length), a < b ∧ x.2 = eOf ws[a] ws[b] ∧ fV ws vals ws[a] ≠ fV ws vals ws[b] := fun x hx => by
      have m := List.mem_map_of_mem (f := fun x : Addr × Str × Str => x.2) (pe.mem_iff.mp hx)
      rw [em] at m
      obtain ⟨y, hy, e⟩ := List.mem_map.mp m
      obtain ⟨x1, x2, x3⟩ := po.ok _ (List.mem_map_of_mem (f := fun x : Addr × Nat × Nat => x.2) hy)
      have ha : y.2.1 < ws.length := by rw [lw]; exact Nat.lt_trans x1 x2
      have hb : y.2.2 < ws.length := by rw [lw]; exact x2
      refine ⟨y.2.1, y.2.2, ha, hb, x1, ?_, ?_⟩
      · have e' : eOf (ws.getD y.2.1 "") (ws.getD y.2.2 "") = x.2 := e
        rw [getDU ha, getDU hb] at e'
        exact e'.symm
      · rw [fV_at nu.nd _ ha (by omega), fV_at nu.nd _ hb x2, ← getDU (d := (0 : Int)) (by omega : y.2.1 < vals.length), ← getDU (d := (0 : Int)) x2]
        exact x3
    have pe2 : (es2.map (·.2)).Perm (es.map (·.2)) := pe.map _
    have ndE : (es.map (·.2)).Nodup := by
      rw [em, List.nodup_iff_pairwise_ne, List.pairwise_map]
      have h := po.nd
      rw [List.nodup_iff_pairwise_ne, List.pairwise_map] at h
      refine (List.Pairwise.and_mem.mp h).imp ?_
      intro x y ⟨hx, hy, ne⟩ e
      obtain ⟨x1, x2, x3⟩ := po.ok _ (List.mem_map_of_mem (f := fun x : Addr × Nat × Nat => x.2) hx)
      obtain ⟨y1, y2, y3⟩ := po.ok _ (List.mem_map_of_mem (f := fun x : Addr × Nat × Nat => x.2) hy)
      have hxa : x.2.1 < ws.length := by rw [lw]; exact Nat.lt_trans x1 x2
      have hxb : x.2.2 < ws.length := by rw [lw]; exact x2
      have hya : y.2.1 < ws.length := by rw [lw]; exact Nat.lt_trans y1 y2
      have hyb : y.2.2 < ws.length := by rw [lw]; exact y2
      rw [getDU hxa, getDU hxb, getDU hya, getDU hyb] at e
      rcases eOf_inj e with ⟨e1, e2⟩ | ⟨e1, e2⟩
      · have a1 := nodup_ix nu.nd e1
        have a2 := nodup_ix nu.nd e2
        exact ne (Prod.ext a1 a2)
      · have a1 := nodup_ix nu.nd e1
        have a2 := nodup_ix nu.nd e2
        omega
    have asc2 : Asc ns := asc_of_sorted sn nn.nd
    have asc1 : Asc ns1 := asc_of_sorted sn1 nn1.nd
    refine q t gr n e stA ps ns ws pn es2 (fV ws vals) _ g ft0 fgr0 fst0 fps0 ht ⟨hgr, hn, he, tp⟩ ⟨⟨asc2, nn.ok⟩, ?_, ?_, ?_⟩ pn2.symm (by rw [pn2.length_eq]; omega) (by rw [pe.length_eq]; omega) hs (fun x hx => ?_) (fun x hx => ?_) hps (fun x hx => pn2.mem_iff.mpr (pn1.mem_iff.mp (sl.mem hx))) (by have := sl.length_le; rw [pn1.length_eq] at this; rw [pn2.length_eq]; exact this) (asc1.sublist sl)
    · refine ascE_of_sorted ?_ (pe2.nodup_iff.mpr ndE)
      rw [List.pairwise_map]
      exact se
    · intro y hy
      obtain ⟨x, hx, rfl⟩ := List.mem_map.mp hy
      obtain ⟨a, b, ha, hb, h1, h2, h3⟩ := inE x hx
      rw [h2]
      exact eOf_lt fun z => h3 (by rw [z])
    · intro y hy
      obtain ⟨x, hx, rfl⟩ := List.mem_map.mp hy
      obtain ⟨a, b, ha, hb, h1, h2, h3⟩ := inE x hx
      rw [h2]
      have m1 := pn2.mem_iff.mpr (List.getElem_mem ha)
      have m2 := pn2.mem_iff.mpr (List.getElem_mem hb)
      rcases eOf_cases ws[a] ws[b] with z | z <;> rw [z]
      · exact ⟨m1, m2⟩
      · exact ⟨m2, m1⟩
    · obtain ⟨j, hj, rfl⟩ := List.mem_iff_getElem.mp (pn2.mem_iff.mp hx)
      rw [fV_at nu.nd j hj (by omega)]
      exact v3 _ (List.getElem_mem _)
    · obtain ⟨a, b, ha, hb, h1, h2, h3⟩ := inE x hx
      rw [h2]
      rcases eOf_cases ws[a] ws[b] with z | z <;> rw [z]
      · exact h3
      · exact Ne.symm h3
end
end Law

/-! tuples of numbers compared; a pair in a tuple of pairs; numbers == [] -/
namespace U
open PySem PySem.Spec PyProof.Rows L2
def rInT (K : PySem.W.Frag) : R2 := fun x y H Q => ∃ (d : PyData) (ds : List PyData), Dp K H x d ∧ Dp K H y (.tuple ds) ∧ SeqAt.shaped d = true ∧ SeqAt.shaped (.tuple ds) = true ∧ Q (.bl (ds.any fun z => PyData.eqv z d)) H
theorem kInT {X : Cx} (K : PySem.W.Frag) (hK : X.K = K) (hu : X.A.units + 65 < cLine) : OpR X (compareOp .In) (rInT K) := by
  subst hK
  intro pins s σ H x y v u Q I rx ry ⟨d, ds, hd, he, sd, se, q⟩
  obtain ⟨_, r1⟩ := Dp.reads I _ _ _ hd rx
  obtain ⟨_, r2⟩ := Dp.reads I _ _ _ he ry
  exact SeqAt.in_tuple_reads r2 r1 (SeqAt.canLay_of_shaped se) (SeqAt.canLay_of_shaped sd) (room_in_shaped sd hu) ⟨.bl _, H, I, rfl, q⟩
theorem rd_inTE {K : PySem.W.Frag} {H : Hp} {Q : VK} {p q : Addr} {e : Str × Str} {es : List (Addr × Str × Str)} (hp : SqT K H p [.str e.1, .str e.2]) (hq : SqT K H q (es.map fun x => V.ref x.1)) (pr : ∀ x ∈ es, SqT K H x.1 [.str x.2.1, .str x.2.2])
    (o1 : PyData.strOk e.1 = true ∧ PyData.strOk e.2 = true) (o2 : ∀ x ∈ es.map (·.2), PyData.strOk x.1 = true ∧ PyData.strOk x.2 = true) (h : Q (.bl (decide (e ∈ es.map (·.2)))) H) : rInT K (.ref p) (.ref q) H Q := by
  refine ⟨dE e, _, .tup hp (.cons (.str _) (.cons (.str _) .nil)), .tup hq (dp_edges pr), shaped_edge o1, shaped_edgesT o2, ?_⟩
  rw [any_dE]
  exact h
section
variable {K : PySem.W.Frag} {H : Hp} {Q : VK} {p q : Addr} {xs ys : List Int}
end
end U

/-! lists of lists of texts as data; min of a list -/
namespace U
open PySem PySem.Spec PyProof.Rows L2
end U



/-! paths_in, mentioned -/
namespace U
open PySem PySem.Spec PyProof.Rows L2
/-- a part of an obstruction, and the paths in it: a name, a path, or a tuple of parts -/
def PAt : Nat → Hp → V → List (List Str) → Prop
  | 0, H, v, ps => (∃ x, v = .str x ∧ ps = [[x]]) ∨ ∃ a p, v = .ref a ∧ H a = some (.lst (p.map V.str)) ∧ ps = [p]
  | n + 1, H, v, ps => ((∃ x, v = .str x ∧ ps = [[x]]) ∨ ∃ a p, v = .ref a ∧ H a = some (.lst (p.map V.str)) ∧ ps = [p]) ∨
    ∃ (a : Addr) (xs : List (V × List (List Str))), v = .ref a ∧ H a = some (.tup (xs.map (·.1))) ∧ (∀ x ∈ xs, PAt n H x.1 x.2) ∧ ps = xs.flatMap (·.2)
theorem PAt.same {H H' : Hp} (s : Same H H') : ∀ {n : Nat} {v : V} {ps : List (List Str)}, PAt n H v ps → PAt n H' v ps
  | 0, v, ps, h => by
    rcases h with h | ⟨a, p, e, ha, e2⟩
    · exact .inl h
    · exact .inr ⟨a, p, e, s _ _ ha, e2⟩
  | n + 1, v, ps, h => by
    rcases h with (h | ⟨a, p, e, ha, e2⟩) | ⟨a, xs, e, ha, hx, e2⟩
    · exact .inl (.inl h)
    · exact .inl (.inr ⟨a, p, e, s _ _ ha, e2⟩)
    · exact .inr ⟨a, xs, e, s _ _ ha, fun x h => PAt.same s (hx x h), e2⟩
def LstsAt (H : Hp) (qs : List (Addr × List Str)) : Prop := ∀ q ∈ qs, H q.1 = some (.lst (q.2.map V.str))
theorem LstsAt.same {H H' : Hp} {qs : List (Addr × List Str)} (h : LstsAt H qs) (s : Same H H') : LstsAt H' qs := fun q hq => s _ _ (h q hq)
end U
namespace Law
open PySem PySem.Spec PyProof.Rows L2 U


section
variable {P : Program} {w : World} {K : PySem.W.Frag} {mg : Str → Option Value} {base : Heap}
end
end Law


/-! mentioned -/
namespace U
open PySem PySem.Spec PyProof.Rows L2
/-- the edges along a path -/
def edgesP : List Str → List (Str × Str)
  | x :: y :: r => eOf x y :: edgesP (y :: r)
  | _ => []
/-- a constraint, as its texts -/
def CstT (c : List Str) : Prop := (∃ x : Str, c = ([("pin" : Str), x] : List Str)) ∨ ∃ a b : Str, c = ([("edge" : Str), a, b] : List Str)
/-- is it mentioned in the paths -/
def namedF (ps : List (List Str)) : List Str → Bool
  | [_, x] => decide (x ∈ ps.flatten)
  | [_, a, b] => decide ((a, b) ∈ ps.flatMap edgesP)
  | _ => false
theorem pin_ne : ("edge" : Str) ≠ "pin" := by decide +kernel
def TxtsAt (H : Hp) (cs : List (Addr × List Str)) : Prop := ∀ c ∈ cs, H c.1 = some (.tup (c.2.map V.str))
theorem TxtsAt.same {H H' : Hp} {cs : List (Addr × List Str)} (h : TxtsAt H cs) (s : Same H H') : TxtsAt H' cs := fun c hc => s _ _ (h c hc)
end U
namespace Law
open PySem PySem.Spec PyProof.Rows L2 U


section
variable {P : Program} {w : World} {K : PySem.W.Frag} {mg : Str → Option Value} {base : Heap}
end
end Law

/-! constraints that are lifted; obstructions that stay: the plain law -/
namespace U
open PySem PySem.Spec PyProof.Rows L2
/-- the edges that are left -/
def esW (es : List (Str × Str)) (S : List (List Str)) : List (Str × Str) := es.filter fun e => decide (([("edge" : Str), e.1, e.2] : List Str) ∉ S)
/-- the pins that are left -/
def pnW (pn : List Str) (S : List (List Str)) : List Str := pn.filter fun x => decide (([("pin" : Str), x] : List Str) ∉ S)
/-- does lifting these make the target reachable -/
def GoodS (ns : List Str) (es : List (Str × Str)) (f g : Str → Int) (pn : List Str) (S : List (List Str)) : Prop := ∃ h, Lft ns (esW es S) f g (pnW pn S) h
theorem esW_cons {es : List (Str × Str)} {c : List Str} {S : List (List Str)} : esW (esW es [c]) S = esW es (c :: S) := by
  unfold esW
  rw [List.filter_filter]
  refine List.filter_congr fun e _ => ?_
  rw [Bool.eq_iff_iff]
  simp only [Bool.and_eq_true, decide_eq_true_eq, List.mem_cons, not_or, List.mem_singleton, List.not_mem_nil, or_false]
  exact And.comm
theorem pnW_cons {pn : List Str} {c : List Str} {S : List (List Str)} : pnW (pnW pn [c]) S = pnW pn (c :: S) := by
  unfold pnW
  rw [List.filter_filter]
  refine List.filter_congr fun e _ => ?_
  rw [Bool.eq_iff_iff]
  simp only [Bool.and_eq_true, decide_eq_true_eq, List.mem_cons, not_or, List.mem_singleton, List.not_mem_nil, or_false]
  exact And.comm
theorem esW_same {es : List (Str × Str)} {S T : List (List Str)} (h : ∀ c, c ∈ S ↔ c ∈ T) : esW es S = esW es T := List.filter_congr fun e _ => by
  rw [decide_eq_decide, h]
theorem pnW_same {pn : List Str} {S T : List (List Str)} (h : ∀ c, c ∈ S ↔ c ∈ T) : pnW pn S = pnW pn T := List.filter_congr fun e _ => by
  rw [decide_eq_decide, h]
theorem GoodS.same {ns : List Str} {es : List (Str × Str)} {f g : Str → Int} {pn : List Str} {S T : List (List Str)} (h : ∀ c, c ∈ S ↔ c ∈ T) (k : GoodS ns es f g pn S) : GoodS ns es f g pn T := by
  unfold GoodS at k ⊢
  rw [← esW_same h, ← pnW_same h]
  exact k
theorem GoodS.cons {ns : List Str} {es : List (Str × Str)} {f g : Str → Int} {pn : List Str} {c : List Str} {S : List (List Str)} : GoodS ns (esW es [c]) f g (pnW pn [c]) S ↔ GoodS ns es f g pn (c :: S) := by
  unfold GoodS
  rw [esW_cons, pnW_cons]
/-- an obstruction, by its paths -/
inductive ObP (ns : List Str) (es : List (Str × Str)) (f g : Str → Int) (pn : List Str) : List (List Str) → Prop
  | cyc {c : List Str} {z : Str} : Wk es c → c.head? = some z → c.getLast? = some z → psum f c ≠ psum g c → ObP ns es f g pn [c]
  | node {x : Str} {p q : List Str} : CerP ns es f pn 1 x p → CerP ns es f pn (-1) x q → x ∈ ns → f x ≠ g x → ObP ns es f g pn [[x], p, q]
  | path {p p1 q1 p2 q2 : List Str} {x y : Str} : Wk es p → p.head? = some x → p.getLast? = some y → psum f p ≠ psum g p → CerP ns es f pn 1 x p1 → CerP ns es f pn (-1) x q1 → CerP ns es f pn 1 y p2 → CerP ns es f pn (-1) y q2 → ObP ns es f g pn [p, p1, q1, p2, q2]
section
variable {ns : List Str} {es es' : List (Str × Str)} {f g h : Str → Int} {pn pn' : List Str} {dir : Int}
theorem adj_eOf (lt : ∀ e ∈ es, sLt e.1 e.2) {a b : Str} (h : Adj es a b) : eOf a b ∈ es := by
  unfold eOf
  rcases h with h | h
  · rw [if_pos (lt _ h)]
    exact h
  · rw [if_neg fun z => sLt_irrefl _ (sLt_trans z (lt _ h))]
    exact h
theorem eOf_adj {a b : Str} (h : eOf a b ∈ es) : Adj es a b := by
  unfold eOf at h
  split at h
  · exact .inl h
  · exact .inr h
theorem Wk.keep (lt : ∀ e ∈ es, sLt e.1 e.2) : ∀ {p : List Str}, (∀ e ∈ es, e ∈ edgesP p → e ∈ es') → Wk es p → Wk es' p
  | [], _, _ => trivial
  | [_], _, _ => trivial
  | a :: b :: r, k, w => ⟨eOf_adj (k _ (adj_eOf lt w.1) List.mem_cons_self), Wk.keep lt (p := b :: r) (fun e h1 h2 => k e h1 (List.mem_cons_of_mem _ h2)) w.2⟩
theorem SlP.keep (lt : ∀ e ∈ es, sLt e.1 e.2) : ∀ {p : List Str}, (∀ e ∈ es, e ∈ edgesP p → e ∈ es') → SlP es f dir p → SlP es' f dir p
  | [], _, _ => trivial
  | [_], _, _ => trivial
  | a :: b :: r, k, w => ⟨eOf_adj (k _ (adj_eOf lt w.1) List.mem_cons_self), w.2.1, SlP.keep lt (p := b :: r) (fun e h1 h2 => k e h1 (List.mem_cons_of_mem _ h2)) w.2.2⟩
theorem CerP.keep (lt : ∀ e ∈ es, sLt e.1 e.2) {x : Str} {p : List Str} (k : ∀ e ∈ es, e ∈ edgesP p → e ∈ es') (kp : ∀ y ∈ pn, y ∈ p → y ∈ pn') (c : CerP ns es f pn dir x p) : CerP ns es' f pn' dir x p := by
  refine ⟨c.hd, c.sl.keep lt k, c.ln, c.in_, ?_⟩
  obtain ⟨y, hy, z⟩ := c.en
  exact ⟨y, hy, z.imp (fun z => kp y z (List.mem_of_getLast? hy)) id⟩
theorem ObP.keep (lt : ∀ e ∈ es, sLt e.1 e.2) {ps : List (List Str)} (o : ObP ns es f g pn ps) (k : ∀ e ∈ es, e ∈ ps.flatMap edgesP → e ∈ es') (kp : ∀ y ∈ pn, y ∈ ps.flatten → y ∈ pn') : ObP ns es' f g pn' ps := by
  have k1 : ∀ p ∈ ps, ∀ e ∈ es, e ∈ edgesP p → e ∈ es' := fun p hp e he h => k e he (List.mem_flatMap.mpr ⟨p, hp, h⟩)
  have k2 : ∀ p ∈ ps, ∀ y ∈ pn, y ∈ p → y ∈ pn' := fun p hp y hy h => kp y hy (List.mem_flatten.mpr ⟨p, hp, h⟩)
  have cr : ∀ p ∈ ps, ∀ {dir : Int} {x : Str}, CerP ns es f pn dir x p → CerP ns es' f pn' dir x p := fun p hp _ _ c => c.keep lt (k1 p hp) (k2 p hp)
  cases o with
  | cyc a b c d => exact .cyc (a.keep lt (k1 _ (by simp))) b c d
  | node a b c d => exact .node (cr _ (by simp) a) (cr _ (by simp) b) c d
  | path a b c d e1 e2 e3 e4 => exact .path (a.keep lt (k1 _ (by simp))) b c d (cr _ (by simp) e1) (cr _ (by simp) e2) (cr _ (by simp) e3) (cr _ (by simp) e4)
/-- numbers along a path of one slope -/
theorem slp_num (ok : EsOk ns es f) (fe : Fits es f h) : ∀ {p : List Str} {a b : Str}, SlP es f dir p → p.head? = some a → p.getLast? = some b → (dir = 1 → h b ≤ h a) ∧ (dir = -1 → h a ≤ h b)
  | [], _, _, _, z, _ => nomatch z
  | [x], a, b, _, h1, h2 => by
    have e1 : x = a := by simpa using h1
    have e2 : x = b := by simpa using h2
    rw [← e1, ← e2]
    exact ⟨fun _ => Int.le_refl _, fun _ => Int.le_refl _⟩
  | x :: y :: r, a, b, w, h1, h2 => by
    have e1 : x = a := by simpa using h1
    subst e1
    obtain ⟨i1, i2⟩ := slp_num ok fe (p := y :: r) (a := y) (b := b) w.2.2 rfl (by rw [List.getLast?_cons_cons] at h2; exact h2)
    have k := fit_adj ok fe w.1
    have s := w.2.1
    refine ⟨fun d => ?_, fun d => ?_⟩
    · have := i1 d
      omega
    · have := i2 d
      omega
theorem rr_num (ok : EsOk ns es f) (fe : Fits es f h) {a b : Str} (r : Rr es f dir a b) : (dir = 1 → h b ≤ h a) ∧ (dir = -1 → h a ≤ h b) := by
  obtain ⟨p, h1, h2, h3⟩ := rr_path r
  exact slp_num ok fe h1 h2 h3
/-- a frozen node has the number 0 -/
theorem cer_zero (ok : EsOk ns es f) {x : Str} {p q : List Str} (a : CerP ns es f pn 1 x p) (b : CerP ns es f pn (-1) x q) (fe : Feas ns es f h pn) : h x = 0 := by
  obtain ⟨z1, i1, c1, r1⟩ := cer_anc ok (.inl rfl) a
  obtain ⟨z2, i2, c2, r2⟩ := cer_anc ok (.inr rfl) b
  have y1 := (rr_num ok fe.fit (r1 x (List.mem_of_head? a.hd))).1 rfl
  have y2 := (rr_num ok fe.fit (r2 x (List.mem_of_head? b.hd))).2 rfl
  have z : ∀ z, (z ∈ pn ∨ Cyc es f z) → h z = 0 := fun z c => c.elim (fe.pin z) (fe.cyc z)
  have := z z1 c1
  have := z z2 c2
  omega
/-- an obstruction obstructs -/
theorem ObP.no (ok : EsOk ns es f) (okg : EsOk ns es g) {ps : List (List Str)} (o : ObP ns es f g pn ps) : ¬ Lft ns es f g pn h := fun ⟨fe, m⟩ => by
  have t := feas_t ok okg fe m
  cases o with
  | cyc a b c d =>
    have := psum_lift ok okg t a b c
    omega
  | node a b c d =>
    rename_i x p q
    have := cer_zero ok a b fe
    have := m x c
    have := ok.tri x c
    have := okg.tri x c
    omega
  | path a b c d e1 e2 e3 e4 =>
    have := psum_lift ok okg t a b c
    have := cer_zero ok e1 e2 fe
    have := cer_zero ok e3 e4 fe
    omega
theorem EsOk.sub (ok : EsOk ns es f) (s : ∀ e ∈ es', e ∈ es) : EsOk ns es' f := ⟨fun e h => ok.ne e (s e h), fun e h => ok.mem e (s e h), ok.tri, fun e h => ok.pro e (s e h)⟩
theorem esW_sub {S : List (List Str)} : ∀ e ∈ esW es S, e ∈ es := fun e h => (List.mem_filter.mp h).1
/-- what makes the target reachable is mentioned by the obstruction -/
theorem ObP.hit (ok : EsOk ns es f) (okg : EsOk ns es g) (lt : ∀ e ∈ es, sLt e.1 e.2) {ps : List (List Str)} (o : ObP ns es f g pn ps) {S : List (List Str)} (k : GoodS ns es f g pn S) : ∃ c ∈ S, namedF ps c = true := by
  refine Classical.byContradiction fun no => ?_
  have no : ∀ c ∈ S, namedF ps c = false := fun c hc => by
    cases z : namedF ps c with
    | false => rfl
    | true => exact absurd ⟨c, hc, z⟩ no
  obtain ⟨h, l⟩ := k
  refine (o.keep (es' := esW es S) (pn' := pnW pn S) lt (fun e he h2 => ?_) (fun y hy h2 => ?_)).no (ok.sub esW_sub) (okg.sub esW_sub) l
  · refine List.mem_filter.mpr ⟨he, decide_eq_true fun z => ?_⟩
    have := no _ z
    rw [show namedF ps ([("edge" : Str), e.1, e.2] : List Str) = decide ((e.1, e.2) ∈ ps.flatMap edgesP) from rfl, decide_eq_false_iff_not] at this
    exact this h2
  · refine List.mem_filter.mpr ⟨hy, decide_eq_true fun z => ?_⟩
    have := no _ z
    rw [show namedF ps ([("pin" : Str), y] : List Str) = decide (y ∈ ps.flatten) from rfl, decide_eq_false_iff_not] at this
    exact this h2
end
end U

/-! plain: trees of branches, their bounds, whether they refute -/
namespace U
open PySem PySem.Spec PyProof.Rows L2
/-- a bound: a path, and the certificate of its first node if that is no known node -/
structure Bd where
  p : List Str
  c : Option (List Str × List Str)
inductive BrT where
  | odd (d : PyData)
  | node (x : Str) (lo hi : Option Bd) (bs : List BrT)
def datC : Option (List Str × List Str) → PyData
  | none => .none
  | some q => .tuple [.list (q.1.map PyData.str), .list (q.2.map PyData.str)]
def datBd : Option Bd → PyData
  | none => .none
  | some b => .tuple [.list (b.p.map PyData.str), datC b.c]
mutual
def datT : BrT → PyData
  | .odd d => d
  | .node x lo hi bs => .tuple [.str x, datBd lo, datBd hi, .list (datTs bs)]
def datTs : List BrT → List PyData
  | [] => []
  | t :: r => datT t :: datTs r
end
/-- no branch by its shape -/
def OddB (d : PyData) : Prop := (∀ ds, d ≠ .tuple ds) ∨ (∃ ds, d = .tuple ds ∧ ds.length ≠ 4) ∨ ∃ d1 d2 d3 d4, d = .tuple [d1, d2, d3, d4] ∧ ∀ s, d1 ≠ .str s
mutual
def BrT.ok : BrT → Prop
  | .odd d => OddB d
  | .node _ _ _ bs => BrT.oks bs
def BrT.oks : List BrT → Prop
  | [] => True
  | t :: r => BrT.ok t ∧ BrT.oks r
end
mutual
def BrT.dp : BrT → Nat
  | .odd _ => 0
  | .node _ _ _ bs => BrT.dps bs + 1
def BrT.dps : List BrT → Nat
  | [] => 0
  | t :: r => max (BrT.dp t) (BrT.dps r)
end
theorem dps_at : ∀ {bs : List BrT}, ∀ t ∈ bs, t.dp ≤ BrT.dps bs
  | [], t, h => nomatch h
  | a :: r, t, ht => by
    simp only [BrT.dps]
    rcases List.mem_cons.mp ht with rfl | ht
    · omega
    · have := dps_at t ht
      omega
def stN (f : Str → Int) (dir : Int) : List Str → Nat
  | a :: b :: r => (if slp f a b = dir then 1 else 0) + stN f dir (b :: r)
  | _ => 0
open Classical in noncomputable def bndN (ns : List Str) (es : List (Str × Str)) (f : Str → Int) (pn : List Str) (fc : Str → List Str × List Str → Prop) (ks : List Str) (k : Str → Int) (fr : List Str) (x : Str) (dir : Int) : Option Bd → Option Int
  | none => none
  | some b => match b.p.head? with
    | none => none
    | some y => if b.p.length ≤ 1000 ∧ (∀ z ∈ b.p, z ∈ ns) ∧ Wk es b.p ∧ b.p.getLast? = some x then
        match b.c with
        | none => if y ∈ ks then some (k y - dir * (stN f dir b.p : Int)) else none
        | some q => if fc y q ∧ ¬ ∃ z ∈ fr, Con es y z then some (-dir * (stN f dir b.p : Int)) else none
      else none
def nmsF (f w : Str → Int) (x : Str) (lo hi : Int) : List Int := ((List.range (hi + 1 - lo).toNat).map fun (i : Nat) => lo + (i : Int)).filter fun v => decide ((f x - v) % 3 = w x)
open Classical in noncomputable def reqN (ns : List Str) (es : List (Str × Str)) (f : Str → Int) (pn : List Str) (fc : Str → List Str × List Str → Prop) (w : Str → Int) (ks : List Str) (k : Str → Int) (fr : List Str) (x : Str) (lo hi : Option Bd) : Option (List Int) :=
  match lo, hi with
  | none, none => if ∃ z ∈ ks, Con es x z then none else some (nmsF f w x 0 2)
  | _, _ => match bndN ns es f pn fc ks k fr x 1 lo, bndN ns es f pn fc ks k fr x (-1) hi with
    | some a, some b => some (nmsF f w x a b)
    | _, _ => none
mutual
/-- is a refutation -/
noncomputable def brP (ns : List Str) (es : List (Str × Str)) (f : Str → Int) (pn : List Str) (fc : Str → List Str × List Str → Prop) (ws : List Str) (w : Str → Int) : List Str → (Str → Int) → List Str → BrT → Prop
  | _, _, _, .odd _ => False
  | ks, k, fr, .node x lo hi bs => x ∈ ns ∧ x ∈ ws ∧ x ∉ ks ∧ ∃ vs, reqN ns es f pn fc w ks k fr x lo hi = some vs ∧ vs.length = bs.length ∧ brPs ns es f pn fc ws w (ks ++ [x]) (fun v => updf k x v) (if lo.isNone then fr ++ [x] else fr) vs bs
noncomputable def brPs (ns : List Str) (es : List (Str × Str)) (f : Str → Int) (pn : List Str) (fc : Str → List Str × List Str → Prop) (ws : List Str) (w : Str → Int) : List Str → (Int → Str → Int) → List Str → List Int → List BrT → Prop
  | ks, k, fr, v :: vs, t :: ts => brP ns es f pn fc ws w ks (k v) fr t ∧ brPs ns es f pn fc ws w ks k fr vs ts
  | _, _, _, _, _ => True
end
theorem brP_odd {ns : List Str} {es : List (Str × Str)} {f : Str → Int} {pn : List Str} {fc : Str → List Str × List Str → Prop} {ws : List Str} {w : Str → Int} {ks : List Str} {k : Str → Int} {fr : List Str} {d : PyData} : ¬ brP ns es f pn fc ws w ks k fr (.odd d) := fun h => by
  simp only [brP] at h
theorem brP_node {ns : List Str} {es : List (Str × Str)} {f : Str → Int} {pn : List Str} {fc : Str → List Str × List Str → Prop} {ws : List Str} {w : Str → Int} {ks : List Str} {k : Str → Int} {fr : List Str} {x : Str} {lo hi : Option Bd} {bs : List BrT} :
    brP ns es f pn fc ws w ks k fr (.node x lo hi bs) ↔ x ∈ ns ∧ x ∈ ws ∧ x ∉ ks ∧ ∃ vs, reqN ns es f pn fc w ks k fr x lo hi = some vs ∧ vs.length = bs.length ∧ brPs ns es f pn fc ws w (ks ++ [x]) (fun v => updf k x v) (if lo.isNone then fr ++ [x] else fr) vs bs := by
  simp only [brP]
theorem brPs_at {ns : List Str} {es : List (Str × Str)} {f : Str → Int} {pn : List Str} {fc : Str → List Str × List Str → Prop} {ws : List Str} {w : Str → Int} {ks : List Str} {k : Int → Str → Int} {fr : List Str} : ∀ {vs : List Int} {bs : List BrT}, vs.length = bs.length →
    (brPs ns es f pn fc ws w ks k fr vs bs ↔ ∀ j (h1 : j < vs.length) (h2 : j < bs.length), brP ns es f pn fc ws w ks (k vs[j]) fr bs[j])
  | [], [], _ => by
    simp only [brPs, true_iff]
    intro j h
    exact absurd h (Nat.not_lt_zero _)
  | v :: vs, t :: ts, l => by
    simp only [brPs]
    rw [brPs_at (vs := vs) (bs := ts) (by simpa using l)]
    constructor
    · rintro ⟨a, b⟩ j h1 h2
      cases j with
      | zero => exact a
      | succ j => exact b j (by simpa using h1) (by simpa using h2)
    · intro h
      exact ⟨h 0 (Nat.succ_pos _) (Nat.succ_pos _), fun j h1 h2 => h (j + 1) (by simpa using h1) (by simpa using h2)⟩
  | [], _ :: _, l => nomatch l
  | _ :: _, [], l => nomatch l
theorem datTs_len : ∀ {bs : List BrT}, (datTs bs).length = bs.length
  | [] => by simp [datTs]
  | t :: r => by simp [datTs, datTs_len (bs := r)]
theorem datTs_at : ∀ {bs : List BrT} {j : Nat} (h : j < bs.length), (datTs bs)[j]'(by rw [datTs_len]; exact h) = datT bs[j]
  | t :: r, 0, h => by simp [datTs]
  | t :: r, j + 1, h => by
    simp only [datTs, List.getElem_cons_succ]
    exact datTs_at (bs := r) (by simpa using h)
theorem oks_at : ∀ {bs : List BrT}, BrT.oks bs → ∀ t ∈ bs, t.ok
  | [], _, t, h => nomatch h
  | a :: r, h, t, ht => by
    simp only [BrT.oks] at h
    rcases List.mem_cons.mp ht with rfl | ht
    · exact h.1
    · exact oks_at h.2 t ht
/-- the numbers over a range -/
theorem nmsF_len {f w : Str → Int} {x : Str} {lo hi : Int} : (nmsF f w x lo hi).length ≤ (hi + 1 - lo).toNat := by
  unfold nmsF
  exact Nat.le_trans (List.length_filter_le _ _) (by rw [List.length_map, List.length_range]; exact Nat.le_refl _)
/-- how many of the first i steps go that way -/
def stK (f : Str → Int) (dir : Int) (p : List Str) (i : Nat) : Nat := ((List.range i).filter fun j => decide (slp f (p[j]?.getD "") (p[j + 1]?.getD "") = dir)).length
theorem stK_succ {f : Str → Int} {dir : Int} {p : List Str} {i : Nat} (h : i + 1 < p.length) : stK f dir p (i + 1) = stK f dir p i + (if slp f p[i] p[i + 1] = dir then 1 else 0) := by
  unfold stK
  rw [List.range_succ, List.filter_append, List.length_append, List.filter_cons, List.filter_nil, List.getElem?_eq_getElem (by omega : i < p.length), List.getElem?_eq_getElem h]
  simp only [Option.getD_some, decide_eq_true_eq]
  split <;> rfl
theorem stK_cons {f : Str → Int} {dir : Int} {a : Str} {p : List Str} : ∀ {i : Nat}, stK f dir (a :: p) (i + 1) = (if slp f a (p[0]?.getD "") = dir then 1 else 0) + stK f dir p i
  | 0 => by
    unfold stK
    simp only [List.range_succ, List.range_zero, List.nil_append, List.filter_cons, List.filter_nil, decide_eq_true_eq]
    simp only [List.getElem?_cons_zero, Option.getD_some, List.getElem?_cons_succ]
    split <;> simp
  | i + 1 => by
    have h1 := stK_cons (f := f) (dir := dir) (a := a) (p := p) (i := i)
    have e1 : ∀ (q : List Str) (k : Nat), stK f dir q (k + 1) = stK f dir q k + (if slp f (q[k]?.getD "") (q[k + 1]?.getD "") = dir then 1 else 0) := fun q k => by
      unfold stK
      rw [List.range_succ, List.filter_append, List.length_append, List.filter_cons, List.filter_nil]
      simp only [decide_eq_true_eq]
      split <;> rfl
    rw [e1 (a :: p) (i + 1), h1, e1 p i]
    simp only [List.getElem?_cons_succ]
    omega
theorem stK_all {f : Str → Int} {dir : Int} : ∀ {p : List Str}, stK f dir p (p.length - 1) = stN f dir p
  | [] => by simp [stK, stN]
  | [a] => by simp [stK, stN]
  | a :: b :: r => by
    have ih := stK_all (f := f) (dir := dir) (p := b :: r)
    have e : (a :: b :: r).length - 1 = ((b :: r).length - 1) + 1 := by simp
    rw [e, stK_cons, ih]
    simp only [stN, List.getElem?_cons_zero, Option.getD_some]
theorem stN_le {f : Str → Int} {dir : Int} : ∀ {p : List Str}, stN f dir p ≤ p.length
  | [] => by simp [stN]
  | [a] => by simp [stN]
  | a :: b :: r => by
    have := stN_le (f := f) (dir := dir) (p := b :: r)
    simp only [stN, List.length_cons] at *
    split <;> omega
theorem nms_mem {f w : Str → Int} {x : Str} {lo hi v : Int} (h : v ∈ nmsF f w x lo hi) : lo ≤ v ∧ v ≤ hi := by
  obtain ⟨h1, _⟩ := List.mem_filter.mp h
  obtain ⟨j, hj, rfl⟩ := List.mem_map.mp h1
  have := List.mem_range.mp hj
  omega
section
variable {ns : List Str} {es : List (Str × Str)} {f w : Str → Int} {pn : List Str} {fc : Str → List Str × List Str → Prop} {ks : List Str} {k : Str → Int} {fr : List Str} {x : Str}
theorem bnd_bd {dir i : Int} {b : Option Bd} (kb : ∀ y ∈ ks, -(1000 * (ks.length : Int)) ≤ k y ∧ k y ≤ 1000 * (ks.length : Int)) (hd : dir = 1 ∨ dir = -1) (h : bndN ns es f pn fc ks k fr x dir b = some i) : -(1000 * ((ks.length : Int) + 1)) ≤ i ∧ i ≤ 1000 * ((ks.length : Int) + 1) := by
  unfold bndN at h
  split at h
  · cases h
  · rename_i b
    split at h
    · cases h
    · rename_i y ey
      split at h
      · rename_i c
        have l1 := c.1
        have l2 := stN_le (f := f) (dir := dir) (p := b.p)
        split at h
        · split at h
          · rename_i yk
            cases h
            have := kb y yk
            rcases hd with rfl | rfl <;> omega
          · cases h
        · split at h
          · cases h
            rcases hd with rfl | rfl <;> omega
          · cases h
      · cases h
theorem req_bd {lo hi : Option Bd} {vs : List Int} (kb : ∀ y ∈ ks, -(1000 * (ks.length : Int)) ≤ k y ∧ k y ≤ 1000 * (ks.length : Int)) (k10 : ks.length ≤ 10) (h : reqN ns es f pn fc w ks k fr x lo hi = some vs) : (∀ v ∈ vs, -(1000 * ((ks.length : Int) + 1)) ≤ v ∧ v ≤ 1000 * ((ks.length : Int) + 1)) ∧ vs.length ≤ 50000 := by
  unfold reqN at h
  split at h
  · split at h
    · cases h
    · cases h
      refine ⟨fun v hv => ?_, ?_⟩
      · have := nms_mem hv
        omega
      · have := nmsF_len (f := f) (w := w) (x := x) (lo := 0) (hi := 2)
        omega
  · split at h
    · rename_i a b ea eb
      cases h
      have h1 := bnd_bd kb (.inl rfl) ea
      have h2 := bnd_bd kb (.inr rfl) eb
      refine ⟨fun v hv => ?_, ?_⟩
      · have := nms_mem hv
        omega
      · have := nmsF_len (f := f) (w := w) (x := x) (lo := a) (hi := b)
        omega
    · cases h
end
end U

/-! a def with defaults of its positional parameters -/
namespace U
open PySem PySem.Spec PyProof.Rows L2
section
variable {P : Program} {w : World} {K : PySem.W.Frag} {mg : Str → Option Value} {base : Heap}
end
end U


/-! progress moves -/
namespace Law
open PySem PySem.Spec PyProof.Rows L2 U


section
variable {P : Program} {w : World} {K : PySem.W.Frag} {mg : Str → Option Value} {base : Heap}
end
end Law


/-! repr of [graph, state, pins], of moves -/
namespace Law
open PySem PySem.Spec PyProof.Rows L2 U
section
variable {K : PySem.W.Frag} {H : Hp} {Q : VK} {p q : Addr} {σ : L2.St}
end
end Law


/-! draws and tables of code objects together -/
namespace Law
open PySem PySem.Spec PyProof.Rows L2 U LamX
/-- nothing but the draws' source and the tables changes -/
structure GoN (T : List (Addr × Str)) (p : Addr) (H H' : Hp) : Prop where
  but : ∀ b o, b ≠ p → H b = some o → (∀ ps, o ≠ .tbl ps) → H' b = some o
  pool : PoolAt H' p
  tabs : Tabs T H'
theorem tabs_but {T : List (Addr × Str)} {H H' : Hp} {p : Addr} {ys : List V} (t : Tabs T H) (hp : H p = some (.lst ys)) (b : But p H H') : Tabs T H' := fun q hq => by
  obtain ⟨ps, h1, h2, h3⟩ := t q hq
  refine ⟨ps, b _ _ (ne_of h1 hp (by intro z; cases z)) h1, h2, fun pos cv hc => ?_⟩
  obtain ⟨c, e1, e2⟩ := h3 pos cv hc
  exact ⟨c, e1, b _ _ (ne_of e2 hp (by intro z; unfold CodeO at z; cases z)) e2⟩
section
variable {T : List (Addr × Str)} {p : Addr} {H H1 H' : Hp}
theorem GoN.refl (hp : PoolAt H p) (t : Tabs T H) : GoN T p H H := ⟨fun _ _ _ h _ => h, hp, t⟩
theorem GoN.trans (a : GoN T p H H1) (b : GoN T p H1 H') : GoN T p H H' := ⟨fun c o n h z => b.but c o n (a.but c o n h z) z, b.pool, b.tabs⟩
theorem GoN.of_go (t : Tabs T H) (hp : PoolAt H p) (g : Go p H H') : GoN T p H H' := ⟨fun b o n h _ => g.but b o n h, g.pool, by
  obtain ⟨ys, hy⟩ := hp.isL
  exact tabs_but t hy g.but⟩
theorem GoN.of_ext (hp : PoolAt H p) (x : ExtN H H') (t : Tabs T H') : GoN T p H H' := ⟨fun b o _ h z => x b o h z, hp.keep fun a xs h => ExtN.li x h, t⟩
theorem GoN.of_same (t : Tabs T H) (hp : PoolAt H p) (s : Same H H') : GoN T p H H' := .of_go t hp (Go.of_same hp s)
theorem GoN.go (a : GoN T p H H1) (g : Go p H1 H') : GoN T p H H' := a.trans (.of_go a.tabs a.pool g)
theorem GoN.same (a : GoN T p H H1) (s : Same H1 H') : GoN T p H H' := a.trans (.of_same a.tabs a.pool s)
theorem GoN.ext (a : GoN T p H H1) (x : ExtN H1 H') (t : Tabs T H') : GoN T p H H' := a.trans (.of_ext a.pool x t)
theorem GoN.tu (g : GoN T p H H') (hp : PoolAt H p) {a : Addr} {xs : List V} (h : H a = some (.tup xs)) : H' a = some (.tup xs) := g.but _ _ (hp.offT h) h fun _ z => nomatch z
theorem GoN.dk (g : GoN T p H H') (hp : PoolAt H p) {a : Addr} {xs : List (Key × V)} (h : H a = some (.dK xs)) : H' a = some (.dK xs) := g.but _ _ (hp.offD h) h fun _ z => nomatch z
theorem GoN.li (g : GoN T p H H') {a : Addr} {xs : List V} (n : a ≠ p) (h : H a = some (.lst xs)) : H' a = some (.lst xs) := g.but _ _ n h fun _ z => nomatch z
theorem GSt.goN {g n e st : Addr} {ns ord : List Str} {es : List (Addr × Str × Str)} {f : Str → Int} (h : GSt H g n e st ns ord es f) (hp : PoolAt H p) (x : GoN T p H H') : GSt H' g n e st ns ord es f :=
  ⟨⟨x.tu hp h.gr.top, x.tu hp h.gr.nodes, x.tu hp h.gr.edges, fun y hy => x.tu hp (h.gr.pairs y hy)⟩, h.ok, h.pm, h.l2, h.l3, x.dk hp h.st, h.tri, h.pro⟩
theorem PoolAt.offN {a : Addr} (h : PoolAt H p) (n : H a = none) : a ≠ p := Ne.symm (h.ne n)
theorem TupsAt.ext {ms : List (Addr × Str × Int)} (h : TupsAt H ms) (x : ExtN H H') : TupsAt H' ms := fun m hm => ExtN.tu x (h m hm)
theorem TupsAt.goN {ms : List (Addr × Str × Int)} (h : TupsAt H ms) (hp : PoolAt H p) (x : GoN T p H H') : TupsAt H' ms := fun m hm => x.tu hp (h m hm)
end
end Law


/-! lifts performed: nothing is raised -/
namespace Law
open PySem PySem.Spec PyProof.Rows L2 U LamX


section
variable {P : Program} {w : World} {K : PySem.W.Frag} {mg : Str → Option Value} {base : Heap}
theorem AdjAt.off {H : Hp} {ad a : Addr} {ns : List Str} {es : List (Str × Str)} {Ad : Str → Addr} (h : AdjAt H ad ns es Ad) (n : H a = none) : ad ≠ a ∧ ∀ x ∈ ns, Ad x ≠ a := ⟨ne_of_none h.di n, fun x hx => by
  obtain ⟨ys, h1, _⟩ := h.li x hx
  exact ne_of_none h1 n⟩
theorem AdjAt.put {H : Hp} {ad a : Addr} {o : HO} {ns : List Str} {es : List (Str × Str)} {Ad : Str → Addr} (h : AdjAt H ad ns es Ad) (n : ad ≠ a ∧ ∀ x ∈ ns, Ad x ≠ a) : AdjAt (upd H a o) ad ns es Ad := ⟨at_upd n.1 h.di, fun x hx => by
  obtain ⟨ys, h1, h2⟩ := h.li x hx
  exact ⟨ys, at_upd (n.2 x hx) h1, h2⟩⟩
end
end Law


namespace Law
open PySem PySem.Spec PyProof.Rows L2 U


theorem lk_rd {H H' : Hp} {a b : Addr} {od : Obj} {kvs kvs2 : List (Key × V)} (ha : H a = some (.dK kvs)) (hb : H b = some (.dK kvs2)) (but : But a H H') (hf : H' a = some (.frz od (.dK kvs))) : Rd H' b (.dK kvs2) := by
  by_cases e : b = a
  · subst e
    rw [ha] at hb
    have e2 : kvs = kvs2 := HO.dK.inj (Option.some.inj hb)
    subst e2
    exact .inr ⟨od, hf⟩
  · exact .inl (but b _ e hb)
theorem kvF_at {ns : List Str} {h : Str → Int} {i : Nat} {x y : V} (hx : ((kvF ns h)[i]?.map fun kv => kV kv.1) = some x) (hy : (kvF ns h)[i]?.map Prod.snd = some y) : ∃ hi : i < ns.length, x = .str ns[i] ∧ y = .int (h ns[i]) := by
  rw [kvF, List.getElem?_map] at hx hy
  by_cases hi : i < ns.length
  · rw [List.getElem?_eq_getElem hi] at hx hy
    exact ⟨hi, (Option.some.inj hx).symm, (Option.some.inj hy).symm⟩
  · rw [List.getElem?_eq_none (by omega)] at hx
    cases hx
section
variable {P : Program} {w : World} {K : PySem.W.Frag} {mg : Str → Option Value} {base : Heap}
end
end Law

/-! repr of [graph, state, lift, pins], the lift's numbers small -/
namespace U
open PySem PySem.Spec PyProof.Rows L2
end U

/-! repr of a list of dicts of larger numbers -/
namespace U
open PySem PySem.Spec PyProof.Rows L2
end U

/-! repr of a tuple of data and dicts of numbers; a tuple == () -/
namespace U
open PySem PySem.Spec PyProof.Rows L2
theorem rd_eqNilS {K : PySem.W.Frag} {H : Hp} {Q : VK} {p q : Addr} {xs : List Str} (hp : SqL K H p (xs.map V.str)) (hq : SqL K H q []) (ok : ∀ x ∈ xs, PyData.strOk x = true) (h : Q (.bl xs.isEmpty) H) : rEqU K (.ref p) (.ref q) H Q := by
  refine ⟨_, _, .lst hp (dp_strs _), .lst hq .nil, ?_, by decide, ?_⟩
  · unfold SeqAt.shaped
    rw [PyData.canLay0, can_strs ok, PyData.depth, dep_strs]
    rfl
  · have : PyData.eqv (.list (xs.map PyData.str)) (.list []) = xs.isEmpty := by
      cases xs with
      | nil => simp [PyData.eqv, PyData.eqvAll]
      | cons _ _ => simp [PyData.eqv, PyData.eqvAll]
    rw [this]
    exact h
end U

/-! dict(a list of pairs), lists of truth values compared -/
namespace U
open PySem PySem.Spec PyProof.Rows L2
end U

/-! dict([(key, ..) for key in d]): the pairs made, the dict -/
namespace U
open PySem PySem.Spec PyProof.Rows L2
end U


/-! find_lift of a state to itself -/
namespace Law
open PySem PySem.Spec PyProof.Rows L2 U LamX


section
variable {P : Program} {w : World} {K : PySem.W.Frag} {mg : Str → Option Value} {base : Heap}
end
end Law


/-! find_lift to a state that a feasible lift leads to: the smallest such lift -/
namespace Law
open PySem PySem.Spec PyProof.Rows L2 U LamX


section
variable {P : Program} {w : World} {K : PySem.W.Frag} {mg : Str → Option Value} {base : Heap}
end
end Law

/-! a dict that a call has just made, locked for good -/
namespace U
open PySem PySem.Spec PyProof.Rows L2
end U


/-! is_frozen -/
namespace Law
open PySem PySem.Spec PyProof.Rows L2 U LamX


section
variable {P : Program} {w : World} {K : PySem.W.Frag} {mg : Str → Option Value} {base : Heap}
end
end Law


/-! frozen_nodes -/
namespace Law
open PySem PySem.Spec PyProof.Rows L2 U LamX


/-- frozen: rising and falling paths to anchors -/
def FrzP (ns : List Str) (es : List (Str × Str)) (f : Str → Int) (pn : List Str) (y : Str) : Prop := ∀ dir : Int, dir = 1 ∨ dir = -1 → ∃ z ∈ ns, (z ∈ pn ∨ Cyc es f z) ∧ Rr es f dir y z
section
variable {P : Program} {w : World} {K : PySem.W.Frag} {mg : Str → Option Value} {base : Heap}
end
end Law


/-! after_moves, schedule: nothing is raised -/
namespace Law
open PySem PySem.Spec PyProof.Rows L2 U LamX


/-- rounds stand -/
def RndsAt (H : Hp) (rs : List (Addr × List (Addr × Str × Int))) : Prop := ∀ r ∈ rs, H r.1 = some (.lst (r.2.map fun m => V.ref m.1)) ∧ TupsAt H r.2
theorem RndsAt.same {H H' : Hp} {rs : List (Addr × List (Addr × Str × Int))} (h : RndsAt H rs) (s : Same H H') : RndsAt H' rs := fun r hr => ⟨s _ _ (h r hr).1, (h r hr).2.same s⟩
section
variable {P : Program} {w : World} {K : PySem.W.Frag} {mg : Str → Option Value} {base : Heap}
end
end Law


/-! dependencies, is_event, is_chain -/
namespace U
open PySem PySem.Spec PyProof.Rows L2
theorem ChainP.pre {ns : List Str} {es : List (Str × Str)} {f h : Str → Int} {a b : List (Str × Int)} (c : ChainP ns es f h (a ++ b)) : ChainP ns es f h a := fun j hj => by
  obtain ⟨c1, c2⟩ := c j (by rw [List.length_append]; omega)
  rw [List.getElem_append_left hj] at c1 c2
  refine ⟨c1, fun i hi => ?_⟩
  have := c2 i hi
  rw [List.getElem_append_left (by omega)] at this
  exact this
theorem ChainP.nil {ns : List Str} {es : List (Str × Str)} {f h : Str → Int} : ChainP ns es f h [] := fun j hj => absurd hj (Nat.not_lt_zero _)
theorem ChainP.snoc {ns : List Str} {es : List (Str × Str)} {f h : Str → Int} {a : List (Str × Int)} {e : Str × Int} (c : ChainP ns es f h a) (o : evOk ns h e) (d : ∀ i (hi : i + 1 = a.length), a[i] ∈ depF es f h e.1 e.2) : ChainP ns es f h (a ++ [e]) := fun j hj => by
  rw [List.length_append, List.length_singleton] at hj
  by_cases z : j < a.length
  · rw [List.getElem_append_left z]
    obtain ⟨c1, c2⟩ := c j z
    refine ⟨c1, fun i hi => ?_⟩
    rw [List.getElem_append_left (by omega)]
    exact c2 i hi
  · obtain rfl : j = a.length := by omega
    rw [List.getElem_append_right (Nat.le_refl _)]
    simp only [Nat.sub_self, List.getElem_cons_zero]
    refine ⟨o, fun i hi => ?_⟩
    rw [List.getElem_append_left (by omega)]
    exact d i hi
end U
namespace Law
open PySem PySem.Spec PyProof.Rows L2 U LamX


def spChk0 (K : PySem.W.Frag) : Sp := fun vs H Q _ => ∃ (g n e : Addr) (x : Str) (ns : List Str) (es : List (Addr × Str × Str)), vs = [.ref g, .str x] ∧ GrAt H g n e ns es ∧ x ∈ ns ∧ Q .non H
section
variable {P : Program} {w : World} {K : PySem.W.Frag} {mg : Str → Option Value} {base : Heap}
structure DPa (P : Program) (w : World) (K : PySem.W.Frag) (mg : Str → Option Value) (base : Heap) : Prop where
  has_node : Cal P w K mg base CX0 1 "has_node" (spHasV K)
theorem ok_chk0 {f : Addr} {fd : FuncData} (F : Fun K "check_node" "check_node" s_check_node f fd) (B : Bt mg) (C : DPa P w K mg base) : FnG P w K mg base CX0 2 f fd ["graph", "candidate"] (spChk0 K) := by
  refine fnG0 F sc_check_node (fun vs H Q E h => ?_) (fun cdv A outer s H vs Q E hr h => ?_)
  · obtain ⟨g, n, e, x, ns, es, rfl, _⟩ := h
    rfl
  · obtain ⟨g, n, e, x, ns, es, rfl, hg, hx, q⟩ := h
    have nd := sc_check_node.nd
    refine ⟨_, (pss_one (ps_if (pt_not (pt_val (pe_c C.has_node hr (by decide) rfl (pa_cons (pv 0) (pa_cons (pv 1) pa_nil))))) (pss_one ps_dead) pss_nil)), ?_⟩
    wtm_at "rd"
    refine ⟨g, n, e, .str x, .str, ns, es, rfl, hg, .inr ⟨x, rfl, ?_⟩⟩
    rw [decide_eq_true hx]
    wtm_at "rd"
    exact q
end
end Law


/-! path_to_anchor, frozen_certificate: nothing is raised -/
namespace Law
open PySem PySem.Spec PyProof.Rows L2 U LamX


theorem cutV_dl {xs : List V} : cutV xs none (some (-1)) = xs.dropLast := by
  unfold cutV HT.sIx
  dsimp only
  rw [if_pos (by decide)]
  simp only [Nat.sub_zero, List.drop_zero]
  rw [List.dropLast_eq_take]
  congr 1
  omega
theorem atI_la {p : List Str} {y : Str} (h : p.getLast? = some y) : atI (p.map V.str) (-1) = some (.str y) := by
  rw [drop_last h, List.map_append]
  exact atI_last _ _
def spPta (K : PySem.W.Frag) (T : List (Addr × Str)) : Sp := fun vs H Q _ => ∃ (g n e st al ps : Addr) (x : Str) (dir : Int) (ns ord an pn : List Str) (es : List (Addr × Str × Str)) (f : Str → Int), vs = [.ref g, .ref st, .str x, .int dir, .ref al, .ref ps] ∧ GSt H g n e st ns ord es f ∧ x ∈ ns ∧ (dir = 1 ∨ dir = -1) ∧ H al = some (.lst (an.map V.str)) ∧ SqT K H ps (pn.map V.str) ∧ Tabs T H ∧ (∀ y ∈ an, y ∈ ns ∧ (y ∈ pn ∨ Cyc (es.map (·.2)) f y)) ∧ an.length ≤ 1000 ∧
  ∀ (v : V) (H' : Hp), ExtN H H' → Tabs T H' → ((v = .non ∧ ¬ ∃ y ∈ an, Rr (es.map (·.2)) f dir x y) ∨ ∃ a p, v = .ref a ∧ H' a = some (.lst (p.map V.str)) ∧ CerP ns (es.map (·.2)) f pn dir x p ∧ ∃ y ∈ an, Rr (es.map (·.2)) f dir x y) → Q v H'
def spFcer (K : PySem.W.Frag) (T : List (Addr × Str)) : Sp := fun vs H Q _ => ∃ (g n e st ps : Addr) (x : Str) (ns ord pn : List Str) (es : List (Addr × Str × Str)) (f : Str → Int), vs = [.ref g, .ref st, .str x, .ref ps] ∧ GSt H g n e st ns ord es f ∧ x ∈ ns ∧ SqT K H ps (pn.map V.str) ∧ Tabs T H ∧
  ∀ (v : V) (H' : Hp), ExtN H H' → Tabs T H' → ((v = .non ∧ ¬ FrzP ns (es.map (·.2)) f pn x) ∨ ∃ t a b p q, v = .ref t ∧ H' t = some (.tup [.ref a, .ref b]) ∧ H' a = some (.lst (p.map V.str)) ∧ H' b = some (.lst (q.map V.str)) ∧ CerP ns (es.map (·.2)) f pn 1 x p ∧ CerP ns (es.map (·.2)) f pn (-1) x q ∧ FrzP ns (es.map (·.2)) f pn x) → Q v H'
section
variable {P : Program} {w : World} {K : PySem.W.Frag} {mg : Str → Option Value} {base : Heap}
structure FCa (P : Program) (w : World) (K : PySem.W.Frag) (mg : Str → Option Value) (base : Heap) (T : List (Addr × Str)) : Prop where
  sloped_paths : Cal P w K mg base CX0 2 "sloped_paths" spSloped
  smallest_path : Cal P w K mg base CX0 3 "smallest_path" (spSmall T)
  cycle_at : Cal P w K mg base CX0 4 "cycle_at" (spCycAt T)
  UP : ∃ u, mg "UP" = some u ∧ RelV (.int 1) u
theorem ok_pta {f : Addr} {fd : FuncData} {T : List (Addr × Str)} (F : Fun K "path_to_anchor" "path_to_anchor" s_path_to_anchor f fd) (B : Bt mg) (C : FCa P w K mg base T) : FnG P w K mg base CX0 5 f fd ["graph", "state", "node", "direction", "anchors", "pinned"] (spPta K T) := by
  refine fnG0 F sc_path_to_anchor (fun vs H Q E h => ?_) (fun cdv A outer s H vs Q E hr h => ?_)
  · obtain ⟨g, n, e, st, al, ps, x, dir, ns, ord, an, pn, es, f, rfl, _⟩ := h
    rfl
  · obtain ⟨g, n, e, st, al, ps, x, dir, ns, ord, an, pn, es, f, rfl, gs, hx, hd, hal, hps, tabs, anI, anl, q⟩ := h
    have nd := sc_path_to_anchor.nd
    have hu := hr.u1
    refine ⟨_, (pss_cons (ps_set (i := 6) nd rfl (by first | exact Or.inl rfl | exact Or.inr rfl) (pe_c C.sloped_paths hr (by decide) rfl (pa_cons (pv 0) (pa_cons (pv 1) (pa_cons (pv 2) (pa_cons (pv 3) pa_nil))))))
  (pss_cons (ps_set (i := 7) nd rfl (by first | exact Or.inl rfl | exact Or.inr rfl) (pe_c C.smallest_path hr (by decide) rfl (pa_cons (pe_lc (own := [("one", 8)]) rfl nd (ki_list K rfl (pv 4)) (blkOk_by (own := [("one", 8)]) (N := nN_path_to_anchor) (sc := defScope s_path_to_anchor) (by decide +kernel)) (fun _ _ _ _ _ => (pg_name (i := 8) nd rfl (by first | exact Or.inl rfl | exact Or.inr rfl))) (fun _ _ _ _ _ => (pts_one (pt_cmp (pc_din hu (pv 8) (pv 6))))) (fun _ _ _ _ _ => (pe_dget hu (pv 6) (pv 8) (fun _ _ => rfl)))) pa_nil)))
  (pss_cons (ps_if (PW.pt (pw_or (pt_cmpR uIs (pv 7) pe_non (nomark _)) (pw_or1 (pt_cmpR (kIn K rfl) (pe_ix (kIx K rfl) (pv 7) (pe_un un_neg pe_int) (fun _ _ => rfl)) (pv 5) rfl)))) (pss_one (ps_ret (pv 7))) pss_nil)
  (pss_cons (ps_set (i := 9) nd rfl (by first | exact Or.inl rfl | exact Or.inr rfl) (pe_c C.cycle_at hr (by decide) rfl (pa_cons (pv 0) (pa_cons (pv 1) (pa_cons (pe_ix (kIx K rfl) (pv 7) (pe_un un_neg pe_int) (fun _ _ => rfl)) pa_nil)))))
  (pss_one (ps_ret (pe_op (kAdd K rfl) (pe_slice (kSl K rfl) (pv 7) po_none (po_some (pe_un un_neg pe_int))) (pe_ifExp (pt_cmpR (kEq K rfl hr.u64) (pv 3) (pe_gl rfl C.UP) (nomark _)) (pv 9) (pe_revL (pv 9)))))))))), ?_⟩
    have l1 : ns.length ≤ 1000 := by have := gs.l2; omega
    wtm_at "rd"
    refine ⟨g, n, e, st, x, dir, ns, ord, es, f, rfl, gs, hx, fun d A H1 s1 fd fA pa => ?_⟩
    have cl : ∀ a ∈ ns, ∀ b ∈ nbS (es.map (·.2)) a, b ∈ ns := fun a _ b hb => nbS_in gs.ok hb
    have kin : ∀ y, y ∈ keysF (slF (es.map (·.2)) f dir x) ↔ Rr (es.map (·.2)) f dir x y := fun y => ⟨fun h => stF_reach h, fun h => stF_all (i := 1000) (by have := stF_len (ok := slOk f dir) cl hx 1000; omega) h⟩
    have sl : ∀ c ∈ slF (es.map (·.2)) f dir x, PathTo (nbS (es.map (·.2))) (slOk f dir) x c.1 c.2 ∧ c.2.length ≤ ns.length + 1 ∧ ∀ y ∈ c.2, y ∈ ns := fun c hc => sl_paths gs.ok l1 hx hc
    generalize slF (es.map (·.2)) f dir x = kp at *
    have gs1 := gs.same s1
    have hal1 := s1 _ _ hal
    wtm_at "rd"
    refine rd_forL (SqL.of hal1) ?_
    intro D fD
    refine lcL (K := K) (xs := an.map V.str) (fun j H' => Same H1 H' ∧ H' D = some (.lst (((an.take j).filter fun o => decide (o ∈ keysF kp)).map fun o => V.ref (A o)))) ⟨Same.new fD, upd_same⟩ ?_ ?_ ?_
    · rintro j H' hj ⟨sb, _⟩
      exact SqL.of (sb _ _ hal1)
    · rintro j y H' hy ⟨sb, hD⟩
      obtain ⟨hj, rfl⟩ := map_at hy
      have tk := take_snoc hj
      have lt : ((an.take j).filter fun o => decide (o ∈ keysF kp)).length ≤ 1000 := Nat.le_trans (List.length_filter_le _ _) (by rw [List.length_take]; omega)
      rw [tk, List.filter_append, List.map_append]
      generalize an[j] = o at *
      wtm_at "rd"
      refine rd_din1 (.inl (sb _ _ pa.di)) (k := .inr o) rfl ?_
      by_cases mo : o ∈ keysF kp
      · rw [kvG_val mo]
        refine rd_bl ?_
        refine rd_T ?_
        wtm_at "rd"
        refine rd_dat (.inl (sb _ _ pa.di)) (kvG_val mo) rfl ?_
        refine rd_acc hD (by rw [List.length_map]; omega) ?_
        refine ⟨same_put sb fD, ?_⟩
        rw [upd_same, List.filter_cons, if_pos (decide_eq_true mo)]
        rfl
      · rw [kvG_none mo]
        wtm_at "rd"
        refine ⟨sb, ?_⟩
        rw [List.filter_cons, if_neg (by rw [decide_eq_false mo]; exact Bool.false_ne_true), List.filter_nil, List.map_nil, List.append_nil]
        exact hD
    rintro H2 ⟨s2, hD⟩
    rw [List.length_map, List.take_length] at hD
    have enm : ∀ o, o ∈ (an.filter fun o => decide (o ∈ keysF kp)) ↔ o ∈ an ∧ o ∈ keysF kp := fun o => by rw [List.mem_filter, decide_eq_true_iff]
    generalize (an.filter fun o => decide (o ∈ keysF kp)) = en at *
    have pa2 := pa.same s2
    have s12 := s1.trans s2
    wtm_at "rd"
    have pof : ∀ o ∈ en, ∃ p, kp.lookup o = some p ∧ (o, p) ∈ kp := fun o ho => lookup_some ((enm o).mp ho).2
    refine ⟨D, en.map fun o => (A o, (kp.lookup o).getD []), rfl, tabs.ext fun b o h => s12 b o h, by rw [hD, List.map_map]; rfl, fun i hi => ?_, fun v H3 x3 tb3 i1 i2 => ?_⟩
    · obtain ⟨o, ho, rfl⟩ := List.mem_map.mp hi
      obtain ⟨p, p1, p2⟩ := pof o ho
      show H2 (A o) = some (.lst (((kp.lookup o).getD []).map V.str))
      rw [p1]
      exact pa2.li _ p2
    have x03 : ExtN H H3 := (ExtN.of fun b o h => s12 b o h).trans x3
    rcases i2 with rfl | ⟨i, hi, rfl⟩
    · have e0 : en = [] := List.map_eq_nil_iff.mp (i1.mp rfl)
      wtm_at "rd"
      refine rd_yes rfl ?_
      wtm_at "rd"
      refine q .non H3 x03 tb3 (.inl ⟨rfl, fun ⟨y, y1, y2⟩ => ?_⟩)
      have := (enm y).mpr ⟨y1, (kin y).mpr y2⟩
      rw [e0] at this
      cases this
    obtain ⟨o, ho, rfl⟩ := List.mem_map.mp hi
    obtain ⟨p, p1, p2⟩ := pof o ho
    obtain ⟨oan, oky⟩ := (enm o).mp ho
    obtain ⟨pt, pl, pin⟩ := sl _ p2
    have pt : PathTo (nbS (es.map (·.2))) (slOk f dir) x o p := pt
    have pl : p.length ≤ ns.length + 1 := pl
    have la := pt.slp.2.2
    have hp3 := ExtN.li x3 (pa2.li _ p2)
    have hp3 : H3 (A o) = some (.lst (p.map V.str)) := hp3
    have ex : ∃ y ∈ an, Rr (es.map (·.2)) f dir x y := ⟨o, oan, (kin o).mp oky⟩
    have gs3 := gs.ext x03
    have hps3 := sqT_ext hps x03
    dsimp only
    wtm_at "rd"
    refine rd_no (fun z => nomatch z) ?_
    wtm_at "rd"
    refine rd_ixL (SqL.of hp3) (v := .str o) (atI_la la) ?_
    wtm_at "rd"
    refine rd_inST hps3 ?_
    wtm_at "rd"
    refine rd_split (fun c1 => ?_) (fun c1 => ?_)
    · wtm_at "rd"
      exact q (.ref (A o)) H3 x03 tb3 (.inr ⟨A o, p, rfl, hp3, cer_pin pt pl pin c1, ex⟩)
    have oc := (anI o oan).2.resolve_left c1
    have l2 := gs.l2
    wtm_at "rd"
    refine rd_ixL (SqL.of hp3) (v := .str o) (atI_la la) ?_
    wtm_at "rd"
    refine ⟨g, n, e, st, o, ns, ord, es, f, rfl, gs3, (anI o oan).1, tb3, fun v2 H4 x4 tb4 hv hv2 => ?_⟩
    rcases hv2 with rfl | ⟨c, cs, rfl, hc, cy⟩
    · exact absurd oc (hv.mp rfl)
    have cb := cer_cyc gs.eok (pn := pn) hd pt pl pin cy
    have hp4 := ExtN.li x4 hp3
    have cln := cy.ln
    wtm_at "rd"
    refine rd_slL (SqL.of hp4) ?_
    rw [cutV_dl, ← List.map_dropLast]
    have sX : Same H4 H4 := fun b o h => h
    intro t1 ft1
    have kt1 := Same.new (o := .lst (p.dropLast.map V.str)) ft1
    have ht1 := @upd_same H4 t1 (.lst (p.dropLast.map V.str))
    have hc := kt1 _ _ hc
    have sX := sX.trans kt1
    generalize upd H4 t1 (.lst (p.dropLast.map V.str)) = H5 at ht1 hc sX
    clear kt1 ft1
    wtm_at "rd"
    have dll : p.dropLast.length ≤ p.length := by rw [List.length_dropLast]; omega
    have fin : ∀ (t2 : Addr) (H6 : Hp), Same H4 H6 → H6 t2 = some (.lst ((p.dropLast ++ if dir = 1 then cs else cs.reverse).map V.str)) → Q (.ref t2) H6 := fun t2 H6 s6 h2 =>
      q (.ref t2) H6 ((x03.trans x4).trans (ExtN.of fun b o h => s6 b o h)) (tb4.ext fun b o h => s6 b o h) (.inr ⟨t2, _, rfl, h2, cb, ex⟩)
    refine rd_split (fun c2 => ?_) (fun c2 => ?_)
    · rw [if_pos c2] at fin
      wtm_at "rd"
      refine rd_catL ht1 hc (by rw [List.length_map, List.length_map]; omega) ?_
      intro t2 ft2
      have k2 := Same.new (o := .lst (p.dropLast.map V.str ++ cs.map V.str)) ft2
      exact fin t2 _ (sX.trans k2) (by rw [upd_same, List.map_append])
    · rw [if_neg c2] at fin
      refine rd_revL ?_
      wtm_at "rd"
      refine ⟨c, _, rfl, SqL.of hc, ?_⟩
      intro t3 ft3
      have kt3 := Same.new (o := .lst (cs.map V.str).reverse) ft3
      have ht3 := @upd_same H5 t3 (.lst (cs.map V.str).reverse)
      have ht1 := kt3 _ _ ht1
      have sX := sX.trans kt3
      generalize upd H5 t3 (.lst (cs.map V.str).reverse) = H6 at ht3 ht1 sX
      clear kt3 ft3
      refine rd_catL ht1 ht3 (by rw [List.length_reverse, List.length_map, List.length_map]; omega) ?_
      intro t2 ft2
      have k2 := Same.new (o := .lst (p.dropLast.map V.str ++ (cs.map V.str).reverse)) ft2
      exact fin t2 _ (sX.trans k2) (by rw [upd_same, List.map_append, List.map_reverse])
structure FCb (P : Program) (w : World) (K : PySem.W.Frag) (mg : Str → Option Value) (base : Heap) (T : List (Addr × Str)) : Prop where
  check_node : Cal P w K mg base CX0 2 "check_node" (spChk0 K)
  find_anchors : Cal P w K mg base CX0 6 "find_anchors" (spFindAnchO K T)
  path_to_anchor : Cal P w K mg base CX0 5 "path_to_anchor" (spPta K T)
  UP : ∃ u, mg "UP" = some u ∧ RelV (.int 1) u
  DOWN : ∃ u, mg "DOWN" = some u ∧ RelV (.int (-1)) u
theorem ok_fcer {f : Addr} {fd : FuncData} {T : List (Addr × Str)} (F : Fun K "frozen_certificate" "frozen_certificate" s_frozen_certificate f fd) (B : Bt mg) (C : FCb P w K mg base T) : FnG P w K mg base CX0 7 f fd ["graph", "state", "node", "pinned"] (spFcer K T) := by
  refine fnG0 F sc_frozen_certificate (fun vs H Q E h => ?_) (fun cdv A outer s H vs Q E hr h => ?_)
  · obtain ⟨g, n, e, st, ps, x, ns, ord, pn, es, f, rfl, _⟩ := h
    rfl
  · obtain ⟨g, n, e, st, ps, x, ns, ord, pn, es, f, rfl, gs, hx, hps, tabs, q⟩ := h
    have nd := sc_frozen_certificate.nd
    have hu := hr.u1
    refine ⟨_, (pss_cons (ps_expr (pe_c C.check_node hr (by decide) rfl (pa_cons (pv 0) (pa_cons (pv 2) pa_nil))))
  (pss_cons (ps_set (i := 4) nd rfl (by first | exact Or.inl rfl | exact Or.inr rfl) (pe_c C.find_anchors hr (by decide) rfl (pa_cons (pv 0) (pa_cons (pv 1) (pa_cons (pv 3) pa_nil)))))
  (pss_cons (ps_set (i := 5) nd rfl (by first | exact Or.inl rfl | exact Or.inr rfl) (pe_c C.path_to_anchor hr (by decide) rfl (pa_cons (pv 0) (pa_cons (pv 1) (pa_cons (pv 2) (pa_cons (pe_gl rfl C.UP) (pa_cons (pv 4) (pa_cons (pv 3) pa_nil))))))))
  (pss_cons (ps_set (i := 6) nd rfl (by first | exact Or.inl rfl | exact Or.inr rfl) (pe_c C.path_to_anchor hr (by decide) rfl (pa_cons (pv 0) (pa_cons (pv 1) (pa_cons (pv 2) (pa_cons (pe_gl rfl C.DOWN) (pa_cons (pv 4) (pa_cons (pv 3) pa_nil))))))))
  (pss_one (ps_ret (pe_ifExp (PW.pt (pw_or (pt_cmpR uIs (pv 5) pe_non (nomark _)) (pw_or1 (pt_cmpR uIs (pv 6) pe_non (nomark _))))) pe_non (pe_tup (pa_cons (pv 5) (pa_cons (pv 6) pa_nil)))))))))), ?_⟩
    wtm_at "rd"
    refine ⟨g, n, e, x, ns, es, rfl, gs.gr, hx, ?_⟩
    wtm_at "rd"
    refine ⟨g, n, e, st, ps, ns, ord, pn, es, f, rfl, gs, hps, tabs, fun al H1 x1 tb1 _ hal => ?_⟩
    have anI : ∀ y, y ∈ ancF ns (es.map (·.2)) f pn ↔ y ∈ ns ∧ (y ∈ pn ∨ Cyc (es.map (·.2)) f y) := fun y => ancF_mem
    have anl : (ancF ns (es.map (·.2)) f pn).length ≤ 1000 := Nat.le_trans (List.length_filter_le _ _) (by have := gs.l2; omega)
    generalize ancF ns (es.map (·.2)) f pn = an at *
    have frz : ∀ dir, (∃ y ∈ an, Rr (es.map (·.2)) f dir x y) ↔ ∃ z ∈ ns, (z ∈ pn ∨ Cyc (es.map (·.2)) f z) ∧ Rr (es.map (·.2)) f dir x z := fun dir =>
      ⟨fun ⟨y, a, b⟩ => ⟨y, ((anI y).mp a).1, ((anI y).mp a).2, b⟩, fun ⟨y, a, b, c⟩ => ⟨y, (anI y).mpr ⟨a, b⟩, c⟩⟩
    have gs1 := gs.ext x1
    wtm_at "rd"
    refine ⟨g, n, e, st, al, ps, x, 1, ns, ord, an, pn, es, f, rfl, gs1, hx, .inl rfl, hal, sqT_ext hps x1, tb1, fun y hy => (anI y).mp hy, anl, fun v H2 x2 tb2 hv => ?_⟩
    have x12 := x1.trans x2
    wtm_at "rd"
    refine ⟨g, n, e, st, al, ps, x, -1, ns, ord, an, pn, es, f, rfl, gs.ext x12, hx, .inr rfl, ExtN.li x2 hal, sqT_ext hps x12, tb2, fun y hy => (anI y).mp hy, anl, fun v2 H3 x3 tb3 hv2 => ?_⟩
    have x13 := x12.trans x3
    wtm_at "rd"
    rcases hv with ⟨rfl, nf⟩ | ⟨a, p, rfl, ha, ca, fa⟩
    · refine rd_yes rfl ?_
      wtm_at "rd"
      refine q .non H3 x13 tb3 (.inl ⟨rfl, fun z => nf ((frz 1).mpr (z 1 (.inl rfl)))⟩)
    · refine rd_no (fun z => nomatch z) ?_
      wtm_at "rd"
      rcases hv2 with ⟨rfl, nf⟩ | ⟨b, p2, rfl, hb, cb, fb⟩
      · refine rd_yes rfl ?_
        wtm_at "rd"
        refine q .non H3 x13 tb3 (.inl ⟨rfl, fun z => nf ((frz (-1)).mpr (z (-1) (.inr rfl)))⟩)
      · refine rd_no (fun z => nomatch z) ?_
        wtm_at "rd"
        intro t ft
        have k := Same.new (o := .tup [.ref a, .ref b]) ft
        refine q (.ref t) _ (x13.trans (ExtN.of fun b o h => k b o h)) (tb3.ext fun b o h => k b o h) (.inr ⟨t, a, b, p, p2, rfl, upd_same, k _ _ (ExtN.li x3 ha), k _ _ hb, ca, cb, fun dir hd => ?_⟩)
        rcases hd with rfl | rfl
        · exact (frz 1).mp fa
        · exact (frz (-1)).mp fb
end
end Law


/-! shortest_path; closed walks drawn; the law behind moves -/
namespace Law
open PySem PySem.Spec PyProof.Rows L2 U


section
variable {P : Program} {w : World} {K : PySem.W.Frag} {mg : Str → Option Value} {base : Heap}
end
end Law


/-! find_lift: the smallest lift, or an obstruction -/
namespace Law
open PySem PySem.Spec PyProof.Rows L2 U LamX


def CertAt (H : Hp) (ce : Addr) (ns : List Str) (es : List (Str × Str)) (f : Str → Int) (pn : List Str) (x : Str) : Prop :=
  ∃ a b p q, H ce = some (.tup [.ref a, .ref b]) ∧ H a = some (.lst (p.map V.str)) ∧ H b = some (.lst (q.map V.str)) ∧ CerP ns es f pn 1 x p ∧ CerP ns es f pn (-1) x q
theorem CertAt.ext {H H' : Hp} {ce : Addr} {ns : List Str} {es : List (Str × Str)} {f : Str → Int} {pn : List Str} {x : Str} (h : CertAt H ce ns es f pn x) (e : ExtN H H') : CertAt H' ce ns es f pn x := by
  obtain ⟨a, b, p, q, h1, h2, h3, r⟩ := h
  exact ⟨a, b, p, q, ExtN.tu e h1, ExtN.li e h2, ExtN.li e h3, r⟩
/-- an obstruction -/
inductive ObsAt (ns : List Str) (es : List (Str × Str)) (f g : Str → Int) (pn : List Str) (H : Hp) (t : Addr) : Prop
  | cyc {a : Addr} {c : List Str} {z : Str} : H t = some (.tup [.str "cycle", .ref a]) → H a = some (.lst (c.map V.str)) → Wk es c → c.head? = some z → c.getLast? = some z → (∀ y ∈ c, y ∈ ns) → c.length ≤ 1000 → psum f c ≠ psum g c → ObsAt ns es f g pn H t
  | node {x : Str} {ce : Addr} : H t = some (.tup [.str "node", .str x, .ref ce]) → CertAt H ce ns es f pn x → x ∈ ns → f x ≠ g x → ObsAt ns es f g pn H t
  | path {a c1 c2 : Addr} {p : List Str} {x y : Str} : H t = some (.tup [.str "path", .ref a, .ref c1, .ref c2]) → H a = some (.lst (p.map V.str)) → Wk es p → p.head? = some x → p.getLast? = some y → (∀ z ∈ p, z ∈ ns) → p.length ≤ 1000 → psum f p ≠ psum g p → CertAt H c1 ns es f pn x → CertAt H c2 ns es f pn y → ObsAt ns es f g pn H t
theorem ObsAt.ext {ns : List Str} {es : List (Str × Str)} {f g : Str → Int} {pn : List Str} {H H' : Hp} {t : Addr} (h : ObsAt ns es f g pn H t) (e : ExtN H H') : ObsAt ns es f g pn H' t := by
  cases h with
  | cyc a b c d e' i j k => exact .cyc (ExtN.tu e a) (ExtN.li e b) c d e' i j k
  | node a b c d => exact .node (ExtN.tu e a) (b.ext e) c d
  | path a b c d e' i j k l m => exact .path (ExtN.tu e a) (ExtN.li e b) c d e' i j k (l.ext e) (m.ext e)
section
variable {P : Program} {w : World} {K : PySem.W.Frag} {mg : Str → Option Value} {base : Heap}
end
end Law

/-! a tuple of anything == () -/
namespace U
open PySem PySem.Spec PyProof.Rows L2
def rEqNT (K : PySem.W.Frag) : R2 := fun x y H Q => ∃ a b xs, x = .ref a ∧ y = .ref b ∧ SqT K H a xs ∧ SqT K H b [] ∧ Q (.bl xs.isEmpty) H
theorem kEqNT {X : Cx} (K : PySem.W.Frag) (hK : X.K = K) (hu : X.A.units < cLine) : OpR X (compareOp .Eq) (rEqNT K) := by
  subst hK
  intro pins s σ H x y v u Q I rx ry h
  obtain ⟨a, b, xs, rfl, rfl, h1, h2, q⟩ := h
  cases rx
  cases ry
  obtain ⟨i1, v1, p1, _⟩ := I.tuple h1
  obtain ⟨i2, v2, p2, _⟩ := I.tuple h2
  have l1 := v1.length
  have l2 := v2.length
  have e2 : i2 = [] := List.eq_nil_of_length_eq_zero l2.symm
  subst e2
  have eb : ((List.range (min i1.toArray.size ([] : List Value).toArray.size)).all (fun _ => true) && i1.toArray.size == ([] : List Value).toArray.size) = xs.isEmpty := by
    cases xs with
    | nil =>
      have : i1 = [] := List.eq_nil_of_length_eq_zero l1.symm
      subst this
      rfl
    | cons x r =>
      cases i1 with
      | nil => cases l1
      | cons y r2 => simp
  refine SeqAt.RcAt.tuples (e := fun _ => true) p1 p2 hu (fun j h1 h2 => absurd h2 (Nat.not_lt_zero _)) X.prog X.w _ _ ?_
  rw [eb]
  exact ⟨.bl xs.isEmpty, H, I, rfl, q⟩
theorem rd_eqNT {K : PySem.W.Frag} {H : Hp} {Q : VK} {p q : Addr} {xs : List V} (h1 : SqT K H p xs) (h2 : SqT K H q []) (h : Q (.bl xs.isEmpty) H) : rEqNT K (.ref p) (.ref q) H Q := ⟨p, q, xs, rfl, rfl, h1, h2, h⟩
end U


/-! is_obstruction of an obstruction: nothing is raised -/
namespace Law
open PySem PySem.Spec PyProof.Rows L2 U LamX


theorem atI_hd {p : List Str} {y : Str} (h : p.head? = some y) : atI (p.map V.str) 0 = some (.str y) := by
  cases p with
  | nil => cases h
  | cons a r =>
    obtain rfl : a = y := by simpa using h
    exact atI_nat (j := 0) rfl
section
variable {P : Program} {w : World} {K : PySem.W.Frag} {mg : Str → Option Value} {base : Heap}
theorem ok_edgeO {f : Addr} {fd : FuncData} (F : Fun K "edge_of" "edge_of" s_edge_of f fd) (B : Bt mg) : FnG P w K mg base CX0 1 f fd ["first", "second"] spEdgeOf := by
  refine fnG0 F sc_edge_of (fun vs H Q E h => ?_) (fun cdv A outer s H vs Q E hr h => ?_)
  · obtain ⟨x, y, rfl, _⟩ := h
    rfl
  · obtain ⟨x, y, rfl, q⟩ := h
    have nd := sc_edge_of.nd
    refine ⟨_, (pss_one (ps_ret (pe_ifExp (pt_cmpR uLt (pv 0) (pv 1) (nomark _)) (pe_tup (pa_cons (pv 0) (pa_cons (pv 1) pa_nil))) (pe_tup (pa_cons (pv 1) (pa_cons (pv 0) pa_nil)))))), ?_⟩
    wtm_at "rd"
    refine rd_split (fun c => ?_) (fun c => ?_)
    · have c : sLt x y := c
      rw [if_pos c] at q
      wtm_at "rd"
      exact fun t ft => q t ft
    · have c : ¬ sLt x y := c
      rw [if_neg c] at q
      wtm_at "rd"
      exact fun t ft => q t ft
end
end Law


/-! is_frozen_certificate of two walks or None -/
namespace Law
open PySem PySem.Spec PyProof.Rows L2 U LamX


/-- a walk from x -/
structure WkX (ns : List Str) (es : List (Str × Str)) (x : Str) (p : List Str) : Prop where
  hd : p.head? = some x
  wk : Wk es p
  in_ : ∀ y ∈ p, y ∈ ns
  ln : p.length ≤ 2 * ns.length + 20
theorem wk_atW {es : List (Str × Str)} {q : List Str} (wq : Wk es q) : ∀ j (h : j + 1 < q.length), Adj es q[j] q[j + 1] := by
  induction q with
  | nil => intro j h; exact absurd h (Nat.not_lt_zero _)
  | cons a r ih =>
    cases r with
    | nil => intro j h; simp at h
    | cons b r2 =>
      intro j h
      cases j with
      | zero => exact wq.1
      | succ j => exact ih wq.2 j (by simpa using h)
/-- two walks from x -/
def TwoW (H : Hp) (ce : Addr) (ns : List Str) (es : List (Str × Str)) (x : Str) (p q : List Str) : Prop := ∃ a b, H ce = some (.tup [.ref a, .ref b]) ∧ H a = some (.lst (p.map V.str)) ∧ H b = some (.lst (q.map V.str)) ∧ WkX ns es x p ∧ WkX ns es x q
theorem TwoW.ext {H H' : Hp} {ce : Addr} {ns : List Str} {es : List (Str × Str)} {x : Str} {p q : List Str} (h : TwoW H ce ns es x p q) (e : ExtN H H') : TwoW H' ce ns es x p q := by
  obtain ⟨a, b, h1, h2, h3, r⟩ := h
  exact ⟨a, b, ExtN.tu e h1, ExtN.li e h2, ExtN.li e h3, r⟩
section
variable {P : Program} {w : World} {K : PySem.W.Frag} {mg : Str → Option Value} {base : Heap}
end
end Law

/-! the facts of an own error class, gathered from the fragment -/
namespace U
open PySem PySem.Spec PyProof.Rows L2
theorem exm_sub {K : PySem.W.Frag} {S T : Addr} (h1 : PySem.W.subIn K (.ref S) (.type "BaseException") = some true) (b1 : PySem.W.subIn K (.ref T) (.type "BaseException") = some true) (h2 : PySem.W.isClsIn K T = true) (h3 : PySem.W.typeIn K (.ref T) = some (.type "type")) (h4 : PySem.W.subIn K (.ref S) (.ref T) = some true) :
    PySem.W.exmOne K (.ref S) (.ref T) = some true := by
  have e1 : (PySem.W.subIn K (.ref T) (.type "BaseException") == some true) = true := by rw [b1] <;> rfl
  have e2 : ((PySem.W.clsIn K T).isSome && PySem.W.typeIn K (.ref T) == some (.type "type")) = true := by
    have h2' : (PySem.W.clsIn K T).isSome = true := h2
    rw [h2', h3] <;> rfl
  show (if (PySem.W.subIn K (.ref T) (.type "BaseException") == some true) = true then (if ((PySem.W.clsIn K T).isSome && PySem.W.typeIn K (.ref T) == some (.type "type")) = true then PySem.W.subIn K (.ref S) (.ref T) else none) else none) = some true
  rw [if_pos e1, if_pos e2]
  exact h4
theorem own_mk {K : PySem.W.Frag} {mg : Str → Option Value} {x f : Str} {C CB fI : Addr} {nm q : Str} {N : Addr} {bs : List Value} {sn : List Str} {sub : List Value} {ab : Bool} {col : Option Bool} {dd : Option Addr} {m0 m1 m2 m3 m5 : Option Value}
    (gC : mg x = some (.ref C)) (gB : mg "InputError" = some (.ref CB))
    (xL : K.lookup C = some (excClassObj nm q C N bs [.ref CB, .type "ValueError", .type "Exception", .type "BaseException", .type "object"] true sn sub ab col dd m0 m1 m2 m3 m5 "ValueError.__new__"))
    (sa : PySem.W.findIn K (.ref C) "__setattr__" = some (some (.builtin "object.__setattr__"))) (ga : PySem.W.findIn K (.ref C) "__getattribute__" = some (some (.builtin "BaseException.__getattribute__"))) (gg : PySem.W.findIn K (.ref C) "__getattr__" = some none) (nb : PySem.W.findIn K (.ref C) f = some none)
    (a1 : PySem.W.findIn K (.ref C) "__init__" = some (some (.ref fI))) (t1 : PySem.W.typeIn K (.ref fI) = some (.type "function"))
    (kC : PySem.W.keepIn K (.ref C) = true) (eC : PySem.W.subIn K (.ref C) (.type "BaseException") = some true) (tC : PySem.W.typeIn K (.ref C) = some (.type "type")) (hC : PySem.W.hasDictIn K C = true) (iC : PySem.W.isClsIn K C = true) (sC : PySem.W.subIn K (.ref C) (.ref C) = some true)
    (kB : PySem.W.keepIn K (.ref CB) = true) (eB : PySem.W.subIn K (.ref CB) (.type "BaseException") = some true) (tB : PySem.W.typeIn K (.ref CB) = some (.type "type")) (iB : PySem.W.isClsIn K CB = true) (sB : PySem.W.subIn K (.ref C) (.ref CB) = some true)
    (gB2 : PySem.W.specialIn K (.ref CB) "__getattribute__" = some (some (.builtin "type.__getattribute__"))) (rB : PySem.W.readsIn K CB (.type "type") = true) (aB : PySem.W.findCls K (.ref CB) (.type "type") "__init__" = some (.val (.builtin "ValueError.__init__"))) : OwnX K mg x f C CB fI where
  gC := gC
  ox := ⟨⟨nm, q, N, bs, _, sn, sub, ab, col, dd, m0, m1, m2, m3, m5, xL, by first | rfl | decide +kernel⟩, sa, eC, tC, kC⟩
  no := nb
  iC := a1
  tI := t1
  xf := ⟨ga, gg, eC, hC⟩
  gB := gB
  bi := ⟨kB, gB2, rB, aB⟩
  ex := exm_sub eC eC iC tC sC
  eb := exm_sub eC eB iB tB sB
end U

/-! own exceptions with one field over any built-in class of the plain kind -/
namespace U
open PySem PySem.Spec PyProof.Rows L2
section
variable {P : Program} {w : World} {A : Around} {R : Result → Shared → Prop} {hp : Heap} {g : Array GenState} {d : Drawn} {t : Nat} {os : OsState} {B newId initId : String} {bmB : List Value}
end
section
variable {X : Cx} {pins : List (Addr × Obj)} {σ : L2.St} {H : Hp} {s : Shared} {a C dx : Addr} {f : Str} {y : V} {u : Value} {B newId initId : String} {bmB : List Value}
variable {o e : Expr} {es : List Expr} {to te : TE} {ta : TA} {p p' p1 p2 pos : Pos}
end
section
variable {X : Cx} {W : WX} {j : Nat} {x f : Str} {B newId initId : String} {bmB : List Value} {C : Addr} {e : Expr} {te : TE} {p p2 pos : Pos}
end
section
variable {K : PySem.W.Frag} {H : Hp} {Q : VK} {D : Ends} {σ : L2.St} {newId : String} {bmB : List Value} {ta : TA} {te : TE}
end
end U

/-! own exceptions over KeyError: made by LookupError's __new__ -/
namespace U
open PySem PySem.Spec PyProof.Rows L2
section
variable {M : Model} {A : Around} {E : Value → Shared → Prop} {h : Heap} {g : Array GenState} {d : Drawn} {t : Nat} {os : OsState}
variable {nm q : Str} {C N : Addr} {bs bm bmN : List Value} {hdct : Bool} {sn : List Str} {sub : List Value} {ab : Bool} {col : Option Bool} {dd : Option Addr} {k0 k1 k2 k3 k5 : Option Value} {NB newId iI : String}
end
section
variable {P : Program} {w : World} {A : Around} {R : Result → Shared → Prop} {h : Heap} {g : Array GenState} {d : Drawn} {t : Nat} {os : OsState}
variable {nm q : Str} {C N : Addr} {bs bm bmN : List Value} {hdct : Bool} {sn : List Str} {sub : List Value} {ab : Bool} {col : Option Bool} {dd : Option Addr} {k0 k1 k2 k3 k5 : Option Value} {NB newId iI : String}
end
end U

/-! isinstance of a kept exception, its dict known -/
namespace U
open PySem PySem.Spec PyProof.Rows L2
section
variable {P : Program} {w : World} {A : Around} {E : Value → Shared → Prop} {K : PySem.W.Frag} {x D : Addr} {ox : Obj} {od : Option Obj}
end
end U
namespace U
open PySem PySem.Spec PyProof.Rows L2
theorem kit_ty {K : PySem.W.Frag} {D : Addr} {T : String} {b : Bool} (h1 : PySem.W.kitMeta T = true) (h3 : PySem.W.subIn K (.ref D) (.type T) = some b) : PySem.W.kitOne K (.ref D) (.type T) = some b := by
  unfold PySem.W.kitOne PySem.W.kitCls
  show (if (Value.ref D == Value.type T) = true then some true else if PySem.W.kitMeta T = true then PySem.W.subIn K (.ref D) (.type T) else none) = some b
  rw [if_neg (fun z => nomatch (beq_iff_eq.mp z : Value.ref D = Value.type T)), if_pos h1]
  exact h3
end U

/-! repr of whatever data -/
namespace U
open PySem PySem.Spec PyProof.Rows L2
section
variable {K : PySem.W.Frag} {H H' : Hp}
mutual
theorem dp_ext (l : ∀ a xs, SqL K H a xs → SqL K H' a xs) (t : ∀ a xs, SqT K H a xs → SqT K H' a xs) : ∀ (d : PyData) (v : V), Dp K H v d → Dp K H' v d
  | .none, _, h => by cases h; exact .non
  | .bool _, _, h => by cases h; exact .bl _
  | .int _, _, h => by cases h; exact .int _
  | .str _, _, h => by cases h; exact .str _
  | .list ds, _, h => by
    cases h with
    | lst h1 h2 => exact .lst (l _ _ h1) (dp_extA l t ds _ h2)
  | .tuple ds, _, h => by
    cases h with
    | tup h1 h2 => exact .tup (t _ _ h1) (dp_extA l t ds _ h2)
  | .dict _, _, h => by cases h
theorem dp_extA (l : ∀ a xs, SqL K H a xs → SqL K H' a xs) (t : ∀ a xs, SqT K H a xs → SqT K H' a xs) : ∀ (ds : List PyData) (vs : List V), DpAll K H vs ds → DpAll K H' vs ds
  | [], _, h => by cases h; exact .nil
  | d :: ds, _, h => by
    cases h with
    | cons h1 h2 => exact .cons (dp_ext l t d _ h1) (dp_extA l t ds _ h2)
end
end
/-- a value that repr may be asked of, and what repr says -/
inductive Rp (K : PySem.W.Frag) (H : Hp) : V → Str → Prop
  | non : Rp K H .non "None"
  | bl (b : Bool) : Rp K H (.bl b) (if b then "True" else "False")
  | int (i : Int) (h : i.natAbs.log2 < 1920) : Rp K H (.int i) (toString i)
  | str (x : Str) (h : (reprText x).length ≤ sizeLine) : Rp K H (.str x) (reprText x)
  | of {a : Addr} {d : PyData} : Dp K H (.ref a) d → d.hasDict = false → Shows d → Rp K H (.ref a) d.shown
  | dct {a : Addr} {ns : List Str} {f : Str → Int} : H a = some (.dK (kvF ns f)) → Shows (.dict (ns.map fun n => (.str n, .int (f n)))) → Rp K H (.ref a) (PyData.dict (ns.map fun n => (.str n, .int (f n)))).shown
theorem Rp.ext {K : PySem.W.Frag} {H H' : Hp} {v : V} {d : Str} (h : Rp K H v d) (l : ∀ a xs, SqL K H a xs → SqL K H' a xs) (t : ∀ a xs, SqT K H a xs → SqT K H' a xs) (k : ∀ a kvs, H a = some (.dK kvs) → H' a = some (.dK kvs)) : Rp K H' v d := by
  cases h with
  | non => exact .non
  | bl b => exact .bl b
  | int i h => exact .int i h
  | str x h => exact .str x h
  | of h1 h2 h3 => exact .of (dp_ext l t _ _ h1) h2 h3
  | dct h1 h2 => exact .dct (k _ _ h1) h2
theorem Rp.same {K : PySem.W.Frag} {H H' : Hp} {v : V} {d : Str} (h : Rp K H v d) (s : Same H H') : Rp K H' v d := h.ext
  (fun a xs q => by
    rcases q with (q | ⟨o, q⟩) | q
    · exact .inl (.inl (s _ _ q))
    · exact .inl (.inr ⟨o, s _ _ q⟩)
    · exact .inr q) (fun a xs q => Same.seqT s q) fun a kvs q => s _ _ q
def rReprV (K : PySem.W.Frag) : List V → Hp → VK → Prop := fun xs H Q => ∃ x S, xs = [x] ∧ Rp K H x S ∧ Q (.str S) H
theorem kReprV {X : Cx} (K : PySem.W.Frag) (hK : X.K = K) (hg : X.A.guards = some []) (hu : X.A.units + 64 < cLine) : CallR X (.builtin "repr") (rReprV K) := by
  subst hK
  intro pins s σ H xs us Q I r h
  obtain ⟨x, S, rfl, hr, q⟩ := h
  obtain ⟨u, eu, rx⟩ := vals1 r
  subst eu
  have fin : ∀ (a : Addr) (d : PyData) (as : List Addr), Reads s.heap (.ref a) d as → (d.hasDict = true → sysModules ∉ as) → Shows d → Q (.str d.shown) H → wpAny (model X.prog X.w) X.A (call (.builtin "repr") [.ref a]) (EP X pins σ Q) X.xe s := fun a d as rd hsm S q => by
    have hdp := S.dp
    exact PySem.repr_of_reads' rd S.sh hsm hg (by omega) (fun b o e => e) (fun h' v tk hk => ⟨.str d.shown, H, I.kept (t' := tk) hk, ⟨_, rfl⟩, q⟩) (PyData.shown_fits_bulk (by decide) (by decide) S.lv S.bk)
  cases hr with
  | non =>
    cases rx
    exact PySem.P.repr_of_none ⟨.str _, H, I.tok _, ⟨_, rfl⟩, q⟩
  | bl b =>
    cases rx
    exact PySem.P.repr_of_bool ⟨.str _, H, I.tok _, ⟨_, rfl⟩, q⟩
  | int i h =>
    obtain ⟨tk, rfl⟩ := rx
    exact PySem.P.repr_of_int h ⟨.str _, H, I.tok _, ⟨_, rfl⟩, q⟩
  | str x h =>
    obtain ⟨tk, rfl⟩ := rx
    exact PySem.P.repr_of_str ⟨.str _, H, I.tok _, ⟨_, rfl⟩, q⟩ h
  | of h1 h2 h3 =>
    cases rx
    obtain ⟨as, ra⟩ := Dp.reads I _ _ _ h1 rfl
    exact fin _ _ as ra (fun z => by rw [h2] at z; cases z) h3 q
  | dct h1 h2 =>
    cases rx
    obtain ⟨as, ra, na⟩ := (Di.dct (K := X.K) h1).reads I rfl
    exact fin _ _ as ra (fun _ => na) h2 q
end U


/-! UnknownNode; check_node, neighbors -/
namespace Law
open PySem PySem.Spec PyProof.Rows L2 U


/-- no node -/
def NotN (K : PySem.W.Frag) (H : Hp) (ns : List Str) (x : V) : Prop := (∃ t, TyIs K H x t ∧ isT t .str = false) ∨ ∃ s, x = .str s ∧ s ∉ ns
theorem NotN.same {K : PySem.W.Frag} {H H' : Hp} {ns : List Str} {x : V} (h : NotN K H ns x) (s : Same H H') : NotN K H' ns x := by
  rcases h with ⟨t, h1, h2⟩ | h
  · exact .inl ⟨t, tyx_same h1 s, h2⟩
  · exact .inr h
section
variable {P : Program} {w : World} {K : PySem.W.Frag} {mg : Str → Option Value} {base : Heap}
end
end Law

/-! sizes of shown data, put together from the parts -/
namespace U
open PySem PySem.Spec PyProof.Rows L2
/-- data that repr may be asked of: at most n of them, m deep -/
structure SmD (n m : Nat) (d : PyData) : Prop where
  lv : d.leavesShort 13 = true
  sh : d.showable = true
  bk : d.bulk ≤ n
  dp : d.depth ≤ m
  nd : d.hasDict = false
structure SmDs (n m : Nat) (ds : List PyData) : Prop where
  lv : PyData.leavesShortAll 13 ds = true
  sh : PyData.showableAll ds = true
  bk : PyData.bulkAll ds ≤ n
  dp : PyData.depthAll ds ≤ m
  nd : PyData.hasDictAll ds = false
theorem SmDs.nil : SmDs 0 0 [] := ⟨by simp [PyData.leavesShortAll], by simp [PyData.showableAll], by simp [PyData.bulkAll], by simp [PyData.depthAll], by simp [PyData.hasDictAll]⟩
theorem SmDs.cons {n m n2 m2 : Nat} {d : PyData} {ds : List PyData} (h : SmD n m d) (h2 : SmDs n2 m2 ds) : SmDs (n + 1 + n2) (m + m2) (d :: ds) := by
  obtain ⟨a1, a2, a3, a4, a5⟩ := h
  obtain ⟨b1, b2, b3, b4, b5⟩ := h2
  refine ⟨by rw [PyData.leavesShortAll, a1, b1]; rfl, by rw [PyData.showableAll, a2, b2]; rfl, ?_, ?_, by rw [PyData.hasDictAll, a5, b5]; rfl⟩
  · rw [PyData.bulkAll]
    omega
  · rw [PyData.depthAll]
    omega
theorem SmD.tup {n m : Nat} {ds : List PyData} (h : SmDs n m ds) : SmD n (m + 1) (.tuple ds) := by
  obtain ⟨b1, b2, b3, b4, b5⟩ := h
  exact ⟨by rw [PyData.leavesShort]; exact b1, by rw [PyData.showable]; exact b2, by rw [PyData.bulk]; exact b3, by rw [PyData.depth]; omega, by rw [PyData.hasDict]; exact b5⟩
theorem SmD.lst {n m : Nat} {ds : List PyData} (h : SmDs n m ds) : SmD n (m + 1) (.list ds) := by
  obtain ⟨b1, b2, b3, b4, b5⟩ := h
  exact ⟨by rw [PyData.leavesShort]; exact b1, by rw [PyData.showable]; exact b2, by rw [PyData.bulk]; exact b3, by rw [PyData.depth]; omega, by rw [PyData.hasDict]; exact b5⟩
theorem SmD.mono {n m n2 m2 : Nat} {d : PyData} (h : SmD n m d) (a : n ≤ n2) (b : m ≤ m2) : SmD n2 m2 d := ⟨h.lv, h.sh, Nat.le_trans h.bk a, Nat.le_trans h.dp b, h.nd⟩
theorem SmD.name {x : Str} (h : IsName x) : SmD 8 0 (.str x) := ⟨h.lv, by simp [PyData.showable], h.bk, by simp [PyData.depth], by simp [PyData.hasDict]⟩
theorem SmDs.names : ∀ {xs : List Str}, (∀ x ∈ xs, IsName x) → SmDs (9 * xs.length) 0 (xs.map PyData.str)
  | [], _ => SmDs.nil
  | x :: r, h => by
    have a := SmDs.cons (SmD.name (h x List.mem_cons_self)) (SmDs.names fun y hy => h y (List.mem_cons_of_mem _ hy))
    rw [List.map_cons, List.length_cons]
    exact ⟨a.lv, a.sh, by have := a.bk; omega, a.dp, a.nd⟩
theorem SmDs.of {n m : Nat} : ∀ {ds : List PyData}, (∀ d ∈ ds, SmD n m d) → SmDs ((n + 1) * ds.length) m ds
  | [], _ => ⟨SmDs.nil.lv, SmDs.nil.sh, by simp [PyData.bulkAll], by simp [PyData.depthAll], SmDs.nil.nd⟩
  | d :: ds, h => by
    obtain ⟨a1, a2, a3, a4, a5⟩ := h d List.mem_cons_self
    obtain ⟨b1, b2, b3, b4, b5⟩ := SmDs.of (n := n) (m := m) fun y hy => h y (List.mem_cons_of_mem _ hy)
    refine ⟨by rw [PyData.leavesShortAll, a1, b1]; rfl, by rw [PyData.showableAll, a2, b2]; rfl, ?_, ?_, by rw [PyData.hasDictAll, a5, b5]; rfl⟩
    · rw [PyData.bulkAll, List.length_cons, Nat.mul_succ]
      omega
    · rw [PyData.depthAll]
      omega
theorem SmD.shows {n m : Nat} {d : PyData} (h : SmD n m d) (a : n ≤ 2 ^ 20) (b : m ≤ 50) : Shows d := ⟨h.sh, h.lv, Nat.le_trans h.bk a, Nat.le_trans h.dp b⟩
theorem Dp.same {K : PySem.W.Frag} {H H' : Hp} {v : V} {d : PyData} (h : Dp K H v d) (s : Same H H') : Dp K H' v d := dp_ext
  (fun a xs q => by
    rcases q with (q | ⟨o, q⟩) | q
    · exact .inl (.inl (s _ _ q))
    · exact .inl (.inr ⟨o, s _ _ q⟩)
    · exact .inr q) (fun a xs q => Same.seqT s q) _ _ h
end U

/-! data: parts of lists; a heap without one place -/
namespace U
open PySem PySem.Spec PyProof.Rows L2
theorem dpaLen {K : PySem.W.Frag} {H : Hp} : ∀ {vs : List V} {ds : List PyData}, DpAll K H vs ds → vs.length = ds.length
  | _, _, .nil => rfl
  | _, _, .cons _ r => congrArg (· + 1) (dpaLen r)
theorem dpaGet {K : PySem.W.Frag} {H : Hp} : ∀ {vs : List V} {ds : List PyData}, DpAll K H vs ds → ∀ i (h : i < vs.length) (h2 : i < ds.length), Dp K H vs[i] ds[i]
  | _, _, .cons a r, 0, _, _ => a
  | _, _, .cons a r, i + 1, h, h2 => dpaGet r i (by simpa using h) (by simpa using h2)
/-- the heap without what stands at D -/
def hid (D : Addr) (H : Hp) : Hp := fun a => if a = D then none else H a
theorem hid_le {D : Addr} {H : Hp} : Same (hid D H) H := fun a o h => by
  have h : (if a = D then none else H a) = some o := h
  by_cases e : a = D
  · rw [if_pos e] at h
    cases h
  · rw [if_neg e] at h
    exact h
theorem hid_at {D a : Addr} {H : Hp} {o : HO} (h : H a = some o) (n : a ≠ D) : hid D H a = some o := by
  show (if a = D then none else H a) = some o
  rw [if_neg n]
  exact h
end U


/-! is_path, is_frozen_certificate, is_obstruction of any data -/
namespace U
open PySem PySem.Spec PyProof.Rows L2
/-- a list of texts, as data -/
def strsD : List PyData → Option (List Str)
  | [] => some []
  | .str s :: r => (strsD r).map (s :: ·)
  | _ :: _ => none
theorem strsD_eq : ∀ {ds : List PyData} {p : List Str}, strsD ds = some p → ds = p.map PyData.str
  | [], p, h => by
    cases h
    rfl
  | .str s :: r, p, h => by
    rw [strsD] at h
    cases e : strsD r with
    | none => rw [e] at h; cases h
    | some q =>
      rw [e] at h
      cases h
      rw [strsD_eq e]
      rfl
  | .none :: r, p, h => nomatch h
  | .bool _ :: r, p, h => nomatch h
  | .int _ :: r, p, h => nomatch h
  | .list _ :: r, p, h => nomatch h
  | .tuple _ :: r, p, h => nomatch h
  | .dict _ :: r, p, h => nomatch h
theorem strsD_of : ∀ {p : List Str}, strsD (p.map PyData.str) = some p
  | [] => rfl
  | s :: r => by
    rw [List.map_cons, strsD, strsD_of]
    rfl
open Classical in noncomputable def pathD (ns : List Str) (es : List (Str × Str)) (d : PyData) : Option (List Str) := match d with
  | .list ds => match strsD ds with
    | some p => if 1 ≤ p.length ∧ p.length ≤ 1000 ∧ (∀ y ∈ p, y ∈ ns) ∧ Wk es p then some p else none
    | none => none
  | _ => none
theorem pathD_some {ns : List Str} {es : List (Str × Str)} {d : PyData} {p : List Str} : pathD ns es d = some p ↔ d = .list (p.map PyData.str) ∧ 1 ≤ p.length ∧ p.length ≤ 1000 ∧ (∀ y ∈ p, y ∈ ns) ∧ Wk es p := by
  constructor
  · intro h
    unfold pathD at h
    split at h
    · split at h
      · rename_i q e
        split at h
        · rename_i c
          cases h
          exact ⟨by rw [strsD_eq e], c⟩
        · cases h
      · cases h
    · cases h
  · rintro ⟨rfl, c⟩
    unfold pathD
    simp only [strsD_of]
    exact if_pos c
/-- one path of a certificate -/
def cerD (ns : List Str) (es : List (Str × Str)) (f : Str → Int) (pn : List Str) (dir : Int) (x : Str) (d : PyData) : Prop := ∃ p, pathD ns es d = some p ∧ p.head? = some x ∧ SlP es f dir p ∧ ∃ y, p.getLast? = some y ∧ (y ∈ pn ∨ y ∈ p.dropLast)
/-- a frozen certificate -/
def fcD (ns : List Str) (es : List (Str × Str)) (f : Str → Int) (pn : List Str) (x : Str) (d : PyData) : Prop := ∃ d1 d2, d = .tuple [d1, d2] ∧ cerD ns es f pn 1 x d1 ∧ cerD ns es f pn (-1) x d2
/-- a changed path -/
def chD (ns : List Str) (es : List (Str × Str)) (f g : Str → Int) (d : PyData) (p : List Str) : Prop := pathD ns es d = some p ∧ psum f p ≠ psum g p
inductive obD (ns : List Str) (es : List (Str × Str)) (f g : Str → Int) (pn : List Str) (d : PyData) : Prop
  | cyc {d1 : PyData} {p : List Str} : d = .tuple [.str "cycle", d1] → chD ns es f g d1 p → p.head? = p.getLast? → obD ns es f g pn d
  | node {x : Str} {c : PyData} : d = .tuple [.str "node", .str x, c] → x ∈ ns → f x ≠ g x → fcD ns es f pn x c → obD ns es f g pn d
  | path {d1 c1 c2 : PyData} {p : List Str} {x y : Str} : d = .tuple [.str "path", d1, c1, c2] → chD ns es f g d1 p → p.head? = some x → p.getLast? = some y → fcD ns es f pn x c1 → fcD ns es f pn y c2 → obD ns es f g pn d
end U
namespace Law
open PySem PySem.Spec PyProof.Rows L2 U LamX


theorem head_ofD {p : List Str} (h : 1 ≤ p.length) : ∃ x, p.head? = some x ∧ x ∈ p := by
  cases p with
  | nil => cases h
  | cons a r => exact ⟨a, rfl, List.mem_cons_self⟩
theorem last_ofD {p : List Str} (h : 1 ≤ p.length) : ∃ x, p.getLast? = some x ∧ x ∈ p := by
  have ne : p ≠ [] := fun z => by
    rw [z] at h
    cases h
  exact ⟨_, List.getLast?_eq_getLast ne, List.getLast_mem ne⟩
theorem Same.seqLD {K : PySem.W.Frag} {H H' : Hp} {a : Addr} {xs : List V} (s : Same H H') (h : SqL K H a xs) : SqL K H' a xs := by
  rcases h with (h | ⟨o, h⟩) | h
  · exact .inl (.inl (s _ _ h))
  · exact .inl (.inr ⟨o, s _ _ h⟩)
  · exact .inr h
/-- data, or something that is neither a text nor a list nor a tuple -/
inductive AnyD (K : PySem.W.Frag) (H : Hp) (v : V) : Option PyData → Prop
  | dat {d : PyData} : Dp K H v d → AnyD K H v (some d)
  | odd {t : Ty} : TyIs K H v t → isT t .lst = false → isT t .tup = false → isT t .str = false → AnyD K H v none
theorem AnyD.same {K : PySem.W.Frag} {H H' : Hp} {v : V} {o : Option PyData} (h : AnyD K H v o) (s : Same H H') : AnyD K H' v o := by
  cases h with
  | dat a => exact .dat (Dp.same a s)
  | odd a b c d => exact .odd (tyx_same a s) b c d
theorem ty_seqLD {K : PySem.W.Frag} {H : Hp} {a : Addr} {xs : List V} (h : SqL K H a xs) : TyIs K H (.ref a) .lst := by
  rcases h with (h | ⟨o, h⟩) | h
  · exact ty_lst h
  · exact .base (.frz h)
  · obtain ⟨_, _, _, h1, h2, _⟩ := h
    exact .kList h1 h2
/-- the kind of data -/
theorem dp_ty {K : PySem.W.Frag} {H : Hp} {v : V} {d : PyData} (h : Dp K H v d) : (∃ s, v = .str s ∧ d = .str s) ∨ (∃ a xs ds, v = .ref a ∧ d = .list ds ∧ SqL K H a xs ∧ DpAll K H xs ds ∧ TyIs K H v .lst) ∨ (∃ a xs ds, v = .ref a ∧ d = .tuple ds ∧ SqT K H a xs ∧ DpAll K H xs ds ∧ TyIs K H v .tup) ∨ (∃ t, TyIs K H v t ∧ isT t .lst = false ∧ isT t .tup = false ∧ isT t .str = false ∧ (∀ s, d ≠ .str s) ∧ (∀ ds, d ≠ .list ds) ∧ ∀ ds, d ≠ .tuple ds) := by
  cases h with
  | non => exact .inr (.inr (.inr ⟨_, ty_non, rfl, rfl, rfl, nofun, nofun, nofun⟩))
  | bl b => exact .inr (.inr (.inr ⟨_, ty_bl, rfl, rfl, rfl, nofun, nofun, nofun⟩))
  | int i => exact .inr (.inr (.inr ⟨_, ty_int, rfl, rfl, rfl, nofun, nofun, nofun⟩))
  | str s => exact .inl ⟨s, rfl, rfl⟩
  | lst a b => exact .inr (.inl ⟨_, _, _, rfl, rfl, a, b, ty_seqLD a⟩)
  | tup a b => exact .inr (.inr (.inl ⟨_, _, _, rfl, rfl, a, b, ty_seqT a⟩))
theorem dp_strsD {K : PySem.W.Frag} {H : Hp} : ∀ {p : List Str} {us : List V}, DpAll K H us (p.map PyData.str) → us = p.map V.str
  | [], us, h => by
    cases h
    rfl
  | s :: r, us, h => by
    cases h with
    | cons a b =>
      cases a
      rw [dp_strsD b]
      rfl
theorem dp_list {K : PySem.W.Frag} {H : Hp} {v : V} {p : List Str} (h : Dp K H v (.list (p.map PyData.str))) : ∃ a, v = .ref a ∧ SqL K H a (p.map V.str) := by
  cases h with
  | lst a b =>
    have := dp_strsD b
    subst this
    exact ⟨_, rfl, a⟩
def spCkPD (K : PySem.W.Frag) (C : Addr) : Sp := fun vs H Q E => ∃ (g n e : Addr) (v : V) (o : Option PyData) (ns : List Str) (es : List (Addr × Str × Str)), vs = [.ref g, v] ∧ GrS H g n e ns es ∧ AnyD K H v o ∧ ((∃ p, o.bind (pathD ns (es.map (·.2))) = some p) → ∀ H' : Hp, Same H H' → Q .non H') ∧ (o.bind (pathD ns (es.map (·.2))) = none → ∀ (d : Addr) (H' : Hp), Same H H' → E (.ref C) (some d) H')
def spIsPD (K : PySem.W.Frag) : Sp := fun vs H Q _ => ∃ (g n e : Addr) (v : V) (o : Option PyData) (ns : List Str) (es : List (Addr × Str × Str)), vs = [.ref g, v] ∧ GrS H g n e ns es ∧ AnyD K H v o ∧ ∀ (b : Bool) (H' : Hp), Same H H' → (b = true ↔ ∃ p, o.bind (pathD ns (es.map (·.2))) = some p) → Q (.bl b) H'
def spIsCpD (K : PySem.W.Frag) : Sp := fun vs H Q _ => ∃ (g n e st ps : Addr) (v : V) (d : PyData) (x : Str) (dir : Int) (ns ord pn : List Str) (es : List (Addr × Str × Str)) (f : Str → Int), vs = [.ref g, .ref st, v, .str x, .int dir, .ref ps] ∧ GSt H g n e st ns ord es f ∧ ns.length ≤ 100 ∧ Dp K H v d ∧ SqT K H ps (pn.map V.str) ∧ ∀ (b : Bool) (H' : Hp), Same H H' → (b = true ↔ cerD ns (es.map (·.2)) f pn dir x d) → Q (.bl b) H'
def spIsFcD (K : PySem.W.Frag) : Sp := fun vs H Q _ => ∃ (g n e st ps : Addr) (v : V) (d : PyData) (x : Str) (ns ord pn : List Str) (es : List (Addr × Str × Str)) (f : Str → Int), vs = [.ref g, .ref st, .str x, v, .ref ps] ∧ GSt H g n e st ns ord es f ∧ ns.length ≤ 100 ∧ x ∈ ns ∧ SqT K H ps (pn.map V.str) ∧ Dp K H v d ∧ ∀ (b : Bool) (H' : Hp), Same H H' → (b = true ↔ fcD ns (es.map (·.2)) f pn x d) → Q (.bl b) H'
section
variable {P : Program} {w : World} {K : PySem.W.Frag} {mg : Str → Option Value} {base : Heap}
structure IDa (P : Program) (w : World) (K : PySem.W.Frag) (mg : Str → Option Value) (base : Heap) : Prop where
  has_node : Cal P w K mg base CX0 1 "has_node" (spHasV K)
  edge_of : Cal P w K mg base CX0 1 "edge_of" spEdgeOf
  MAX_PATH : ∃ u, mg "MAX_PATH" = some u ∧ RelV (.int 1000) u
theorem ok_initIPd2 {f : Addr} {fd : FuncData} {C CB : Addr} {x : Str} (F : Fun K "__init__" "InvalidPath.__init__" s_InvalidPath_init f fd) (T : OwnX K mg x "position" C CB f) : FnOk P w K mg base CX0 1 f fd ["self", "position"] (spInit1 C "position") := by
  refine F.ok sc_InvalidPath_init (fun vs H Q E h => ?_) (fun cdv A outer s H vs Q E hr h => ?_)
  · obtain ⟨a, v, rfl, _⟩ := h
    rfl
  · obtain ⟨a, v, rfl, ha, q⟩ := h
    refine ⟨_, pss_cons (ps_expr (pe_binit (x := "InputError") rfl T.gB T.bi (pa_cons (pv 0) (pa_cons pe_str pa_nil)))) (pss_one (ps_ost (pv 0) (pv 1))), ?_⟩
    wtm_at "rd"
    refine rd_vei (v := v) ?_
    wtm_at "rd"
    refine ⟨a, C, _, rfl, by decide, T.ox, ha, ?_⟩
    dsimp only
    refine rd_ost ?_
    wtm_at "rd"
    exact ⟨a, C, rfl, T.ox, T.no, .inl ⟨ha, fun dx n1 n2 => q dx n1 n2⟩⟩
theorem ok_ckPD {f : Addr} {fd : FuncData} {CE CB : Addr} (F : Fun K "check_path" "check_path" s_check_path f fd) (B : Bt mg) (C : IDa P w K mg base) (T : ErrX P w K mg base "InvalidPath" "position" CE CB) : FnG P w K mg base (L2.CX P w) 3 f fd ["graph", "candidate"] (spCkPD K CE) := by
  refine fnG F sc_check_path (fun vs H Q E h => ?_) (fun cdv A outer s H vs Q E hr h => ?_)
  · obtain ⟨g, n, e, v, o, ns, es, rfl, _⟩ := h
    rfl
  · have hu65 : (A.deeper (envOfC "check_path" (defScope s_check_path) s.heap.objs.size f cdv)).units + 65 < cLine := by
      have := hr.u100
      omega
    obtain ⟨g, n, e, v, o, ns, es, rfl, gs, an, q, er⟩ := h
    have nd := sc_check_path.nd
    have hu := hr.u1
    refine ⟨_, (pss_cons (ps_if (PW.pt (pw_or (pt_not (pt_val (pe_callB (kIsi K rfl) (by rfl) B.isinstance bb_isinstance (pa_cons (pv 1) (pa_cons (pe_ty rfl B.list bb_list) pa_nil))))) (pw_or1 (pt_not (pt_chain uLe uLe pe_int (pe_callB (kLen K rfl) (by rfl) B.len bb_len (pa_cons (pv 1) pa_nil)) (pe_gl rfl C.MAX_PATH)))))) (pss_one (ps_rz T hr (by decide) rfl (takes_of rfl rfl rfl rfl) rfl pe_non)) pss_nil)
  (pss_one (ps_for (passes_of rfl) rfl (pi_enum (by rfl) B.enumerate (pa_cons (pv 1) pa_nil)) (kg_tup (n := 2) K rfl rfl (pgs_cons (pg_name (i := 2) nd rfl (by first | exact Or.inl rfl | exact Or.inr rfl)) (pgs_cons (pg_name (i := 3) nd rfl (by first | exact Or.inl rfl | exact Or.inr rfl)) pgs_nil))) (pss_cons (ps_if (pt_not (pt_val (pe_c C.has_node hr (by decide) rfl (pa_cons (pv 0) (pa_cons (pv 3) pa_nil))))) (pss_one (ps_rz T hr (by decide) rfl (takes_of rfl rfl rfl rfl) rfl (pv 2))) pss_nil)
  (pss_one (ps_if (PW.pt (pw_and (pt_cmpR uGt (pv 2) pe_int (nomark _)) (pw_and1 (pt_cmpR (kNinT K rfl hu65) (pe_c C.edge_of hr (by decide) rfl (pa_cons (pe_ix (kIx K rfl) (pv 1) (pe_op uSub (pv 2) pe_int) (fun _ _ => rfl)) (pa_cons (pv 3) pa_nil))) (pe_ix (kIx K rfl) (pv 0) pe_int (fun _ _ => rfl)) rfl)))) (pss_one (ps_rz T hr (by decide) rfl (takes_of rfl rfl rfl rfl) rfl (pv 2))) pss_nil)))))), ?_⟩
    wtm_at "rd"
    have odd : ∀ {t : Ty}, TyIs K H v t → isT t .lst = false → (∀ ds, o ≠ some (.list ds)) → ∃ t, TyIs K H v t ∧ isT t .lst = false ∧ o.bind (pathD ns (es.map (·.2))) = none := fun {t} a b c => by
      refine ⟨t, a, b, ?_⟩
      cases o with
      | none => rfl
      | some d =>
        show pathD ns _ d = none
        cases e : pathD ns (es.map (·.2)) d with
        | none => rfl
        | some p => exact absurd (congrArg some (pathD_some.mp e).1) (c _)
    have alt : (∃ t, TyIs K H v t ∧ isT t .lst = false ∧ o.bind (pathD ns (es.map (·.2))) = none) ∨ ∃ a us ds, v = .ref a ∧ o = some (.list ds) ∧ SqL K H a us ∧ DpAll K H us ds ∧ TyIs K H v .lst := by
      cases an with
      | odd a b c d => exact .inl (odd a b nofun)
      | dat h =>
        rcases dp_ty h with ⟨s, rfl, rfl⟩ | ⟨a, us, ds, rfl, rfl, h1, h2, h3⟩ | ⟨a, us, ds, rfl, rfl, h1, h2, h3⟩ | ⟨t, h1, h2, h3, h4, h5, h6, h7⟩
        · exact .inl (odd ty_str rfl nofun)
        · exact .inr ⟨a, us, ds, rfl, rfl, h1, h2, h3⟩
        · exact .inl (odd h3 rfl nofun)
        · exact .inl (odd h1 h2 fun ds e => h6 ds (Option.some.inj e))
    rcases alt with ⟨t, ty, nl, no⟩ | ⟨pl, us, ds, rfl, rfl, hpl, dps, ty⟩
    · refine rd_isi ty (t := .lst) (by decide +kernel) ?_
      rw [nl]
      wtm_at "rd"
      refine rd_rz ?_
      wtm_at "rd"
      exact rd_mk1 fun dd H' s' nd' hd => er no dd H' s'
    have ul := dpaLen dps
    refine rd_isi ty (t := .lst) (by decide +kernel) ?_
    rw [show isT Ty.lst Ty.lst = true from rfl]
    wtm_at "rd"
    refine rd_lenL hpl ?_
    wtm_at "rd"
    refine rd_split (fun c1 => ?_) (fun c1 => ?_)
    · wtm_at "rd"
      refine rd_nsplit (fun c2 => ?_) (fun c2 => ?_)
      · wtm_at "rd"
        refine rd_rz ?_
        wtm_at "rd"
        refine rd_mk1 fun dd H' s' nd' hd => er ?_ dd H' s'
        show pathD ns _ (.list ds) = none
        cases e : pathD ns (es.map (·.2)) (.list ds) with
        | none => rfl
        | some p =>
          obtain ⟨e1, _, e3, _⟩ := pathD_some.mp e
          injection e1 with e1
          rw [e1, List.length_map] at ul
          omega
      wtm_at "rd"
      refine rd_forE hpl ?_
      refine turnsW (walk_enum (K := K) (a := pl) (xs := us)) (fun i σ H' => (∃ u2 u3 : Option V, σ = [some (.ref g), some (.ref pl), u2, u3]) ∧ Same H H' ∧ ∃ p : List Str, ds.take i = p.map PyData.str ∧ (∀ y ∈ p, y ∈ ns) ∧ Wk (es.map (·.2)) p) ⟨⟨_, _, rfl⟩, (fun b o h => h), [], rfl, (fun y h => nomatch h), trivial⟩ ?_ ?_ ?_
      · rintro i σ H' hi ⟨_, s, _⟩
        exact Same.seqLD s hpl
      · rintro i y σ H3 H4 hi ⟨⟨u2, u3, rfl⟩, s, p, ep, pin, wk⟩ ⟨T1, x1, y1, rfl, fT, rfl, e1, e2⟩
        have hx := Option.some.inj e1
        subst hx
        have hd : i < ds.length := by omega
        have hy : y1 = us[i] := by
          have e2 : us[i]? = some y1 := e2
          rw [List.getElem?_eq_getElem hi] at e2
          exact (Option.some.inj e2).symm
        subst hy
        have pl_ : p.length = i := by
          have := congrArg List.length ep
          rw [List.length_take, List.length_map] at this
          omega
        have s1 := s.trans (Same.new (o := .tup [.int (i : Int), us[i]]) fT)
        have hT := @upd_same H3 T1 (.tup [.int (i : Int), us[i]])
        generalize upd H3 T1 (.tup [.int (i : Int), us[i]]) = H5 at s1 hT
        have gs5 := gs.same s1
        have dpi := Dp.same (dpaGet dps i hi hd) s1
        have tk : ds.take (i + 1) = p.map PyData.str ++ [ds[i]] := by
          rw [List.take_succ_eq_append_getElem hd, ep]
        -- what a right list has at i
        have at_i : ∀ q, pathD ns (es.map (·.2)) (.list ds) = some q → ∃ z, ds[i] = .str z ∧ z ∈ ns ∧ Wk (es.map (·.2)) (p ++ [z]) := fun q e => by
          obtain ⟨e1, _, _, e4, e5⟩ := pathD_some.mp e
          injection e1 with e1
          have hq : i < q.length := by
            rw [e1, List.length_map] at hd
            exact hd
          have eq : ds[i] = .str q[i] := by
            have : ds[i]? = (q.map PyData.str)[i]? := by rw [e1]
            rw [List.getElem?_eq_getElem hd, List.getElem?_map, List.getElem?_eq_getElem hq] at this
            exact Option.some.inj this
          refine ⟨q[i], eq, e4 _ (List.getElem_mem hq), ?_⟩
          have : q.take (i + 1) = p ++ [q[i]] := by
            rw [List.take_succ_eq_append_getElem hq]
            congr 1
            have h1 := ep
            rw [e1, ← List.map_take] at h1
            exact (List.map_inj_right fun a b h => PyData.str.inj h).mp h1
          rw [← this]
          rw [← List.take_append_drop (i + 1) q] at e5
          exact e5.left
        have bad : (∀ z, ds[i] = .str z → z ∈ ns → ¬ Wk (es.map (·.2)) (p ++ [z])) → pathD ns (es.map (·.2)) (.list ds) = none := fun h => by
          cases e : pathD ns (es.map (·.2)) (.list ds) with
          | none => rfl
          | some q =>
            obtain ⟨z, h1, h2, h3⟩ := at_i q e
            exact absurd h3 (h z h1 h2)
        clear at_i
        refine rd_unp (SqT.of hT) rfl ?_
        wtm_at "rd"
        have tyc : (∃ t, TyIs K H5 us[i] t ∧ isT t .str = false ∧ ∀ z, ds[i] ≠ .str z) ∨ ∃ z, us[i] = .str z ∧ ds[i] = .str z := by
          rcases dp_ty dpi with ⟨s, e1, e2⟩ | ⟨a, _, _, e1, e2, _, _, h3⟩ | ⟨a, _, _, e1, e2, _, _, h3⟩ | ⟨t, h1, h2, h3, h4, h5, h6, h7⟩
          · exact .inr ⟨s, e1, e2⟩
          · exact .inl ⟨_, h3, rfl, fun z e => by rw [e2] at e; cases e⟩
          · exact .inl ⟨_, h3, rfl, fun z e => by rw [e2] at e; cases e⟩
          · exact .inl ⟨t, h1, h4, h5⟩
        rcases tyc with ⟨t, ty5, nst, nz⟩ | ⟨z, ez, edz⟩
        · refine ⟨g, n, e, us[i], t, ns, es, rfl, gs5.gr, .inl ⟨ty5, nst, ?_⟩⟩
          wtm_at "rd"
          refine rd_rz ?_
          wtm_at "rd"
          exact rd_mk1 fun dd H' s' nd' hd => er (bad fun z h => absurd h (nz z)) dd H' (s1.trans s')
        refine ⟨g, n, e, us[i], .str, ns, es, rfl, gs5.gr, .inr ⟨z, ez, ?_⟩⟩
        by_cases zin : z ∈ ns
        · rw [decide_eq_true zin]
          wtm_at "rd"
          refine rd_split (fun c3 => ?_) (fun c3 => ?_)
          · obtain ⟨j, rfl⟩ : ∃ j, i = j + 1 := ⟨i - 1, by omega⟩
            have hj : j < p.length := by omega
            have yin := pin _ (List.getElem_mem hj)
            have uj : us[j]? = some (.str p[j]) := by
              have hju : j < us.length := by omega
              have hjd : j < ds.length := by omega
              have dj := dpaGet dps j hju hjd
              have ej : ds[j] = .str p[j] := by
                have : (ds.take (j + 1))[j]? = (p.map PyData.str)[j]? := by rw [ep]
                rw [List.getElem?_take, if_pos (Nat.lt_succ_self j), List.getElem?_eq_getElem hjd, List.getElem?_map, List.getElem?_eq_getElem hj] at this
                exact Option.some.inj this
              rw [ej] at dj
              rw [List.getElem?_eq_getElem hju]
              generalize us[j] = v at *
              cases dj
              rfl
            have plast : p.getLast? = some p[j] := by
              rw [List.getLast?_eq_getElem?, pl_, Nat.add_sub_cancel]
              exact List.getElem?_eq_getElem hj
            wtm_at "rd"
            refine rd_ixL (Same.seqLD s1 hpl) (v := .str p[j]) (by
              rw [show (((j + 1 : Nat) : Int)) - 1 = ((j : Nat) : Int) from by omega]
              exact atI_nat uj) ?_
            wtm_at "rd"
            have nw : ¬ Adj (es.map (·.2)) p[j] z → ¬ Wk (es.map (·.2)) (p ++ [z]) := fun a w => by
              have w1 := wk_atW w j (by rw [List.length_append, List.length_singleton]; omega)
              rw [List.getElem_append_left hj, List.getElem_append_right (by omega)] at w1
              have e0 : ([z] : List Str)[j + 1 - p.length]'(by rw [List.length_singleton]; omega) = z := by
                have : j + 1 - p.length = 0 := by omega
                simp [this]
              rw [e0] at w1
              exact a w1
            have yw : Adj (es.map (·.2)) p[j] z → Wk (es.map (·.2)) (p ++ [z]) := fun a => wk.snoc plast a
            rw [ez]
            generalize p[j] = a at *
            refine ⟨a, z, rfl, fun t ft => ?_⟩
            have kt := Same.new (o := .tup (if sLt a z then [.str a, .str z] else [.str z, .str a])) ft
            have ht := @upd_same H5 t (.tup (if sLt a z then [.str a, .str z] else [.str z, .str a]))
            have gs6 := gs5.same kt
            have s6 := s1.trans kt
            generalize upd H5 t (.tup (if sLt a z then [.str a, .str z] else [.str z, .str a])) = H6 at kt ht gs6 s6
            rw [eOf_pair] at ht
            have sok : ∀ x ∈ ns, PyData.strOk x = true := fun x hx => (gs.ok.names.ok x hx).sok
            wtm_at "rd"
            refine rd_ixT (SqT.of gs6.gr.top) (v := .ref e) rfl ?_
            refine rd_ninTE (e := eOf a z) (SqT.of ht) (SqT.of gs6.gr.edges) (fun x hx => SqT.of (gs6.gr.pairs x hx)) (by
              rcases eOf_cases a z with w | w <;> rw [w]
              · exact ⟨sok _ yin, sok _ zin⟩
              · exact ⟨sok _ zin, sok _ yin⟩) (fun x hx => ⟨sok _ (gs.ok.mem x hx).1, sok _ (gs.ok.mem x hx).2⟩) ?_
            wtm_at "rd"
            refine rd_nsplit (fun c2 => ?_) (fun c2 => ?_)
            · wtm_at "rd"
              refine rd_rz ?_
              wtm_at "rd"
              refine rd_mk1 fun dd H' s' nd' hd => er (bad fun w h _ => ?_) dd H' (s6.trans s')
              rw [edz] at h
              cases h
              exact nw fun a => c2 (eOf_mem gs.ok a)
            · wtm_at "rd"
              refine ⟨⟨_, _, rfl⟩, s6, p ++ [z], by rw [tk, edz, List.map_append]; rfl, fun y hy => ?_, yw (eOf_adj c2)⟩
              rcases List.mem_append.mp hy with hy | hy
              · exact pin y hy
              · rw [List.mem_singleton.mp hy]
                exact zin
          · have : p = [] := List.length_eq_zero_iff.mp (by omega)
            subst this
            wtm_at "rd"
            exact ⟨⟨_, _, rfl⟩, s1, [z], by rw [tk, edz]; rfl, fun y hy => by rw [List.mem_singleton.mp hy]; exact zin, trivial⟩
        · rw [decide_eq_false zin]
          wtm_at "rd"
          refine rd_rz ?_
          wtm_at "rd"
          refine rd_mk1 fun dd H' s' nd' hd => er (bad fun w h hw => ?_) dd H' (s1.trans s')
          rw [edz] at h
          cases h
          exact absurd hw zin
      · rintro σ H' ⟨⟨u2, u3, rfl⟩, s, p, ep, pin, wk⟩
        wtm_at "rd"
        rw [ul, List.take_length] at ep
        subst ep
        rw [List.length_map] at ul
        exact q ⟨p, pathD_some.mpr ⟨rfl, by omega, by omega, pin, wk⟩⟩ H' s
    · wtm_at "rd"
      refine rd_rz ?_
      wtm_at "rd"
      refine rd_mk1 fun dd H' s' nd' hd => er ?_ dd H' s'
      show pathD ns _ (.list ds) = none
      cases e : pathD ns (es.map (·.2)) (.list ds) with
      | none => rfl
      | some p =>
        obtain ⟨e1, e2, _⟩ := pathD_some.mp e
        injection e1 with e1
        rw [e1, List.length_map] at ul
        omega
structure IDb (P : Program) (w : World) (K : PySem.W.Frag) (mg : Str → Option Value) (base : Heap) (CE : Addr) : Prop where
  check_path : Cal P w K mg base (L2.CX P w) 3 "check_path" (spCkPD K CE)
theorem ok_isPD {f : Addr} {fd : FuncData} {CE CB fI : Addr} (F : Fun K "is_path" "is_path" s_is_path f fd) (B : Bt mg) (C : IDb P w K mg base CE) (T : OwnX K mg "InvalidPath" "position" CE CB fI) : FnG P w K mg base CX0 4 f fd ["graph", "candidate"] (spIsPD K) := by
  refine fnG0 F sc_is_path (fun vs H Q E h => ?_) (fun cdv A outer s H vs Q E hr h => ?_)
  · obtain ⟨g, n, e, v, o, ns, es, rfl, _⟩ := h
    rfl
  · obtain ⟨g, n, e, v, o, ns, es, rfl, gs, an, q⟩ := h
    have nd := sc_is_path.nd
    have hu := hr.u1
    refine ⟨_, (pss_cons (ps_try_only (Wout := fun _ _ _ _ => False) rfl rfl ⟨rfl, by decide, Or.inl T.gC⟩ L2.takes0 (fun W pn xe tk _ => pss_one (ps_expr (pe_cX C.check_path hr (by decide) rfl tk (pa_cons (pv 0) (pa_cons (pv 1) pa_nil))))) (fun a oe cls d pn _ _ => pss_one (ps_ret pe_bl)))
  (pss_one (ps_ret pe_bl))), ?_⟩
    wtm_at "rd"
    refine ⟨g, n, e, v, o, ns, es, rfl, gs, an, fun h H' s => ?_, fun h d H' s => ⟨true, T.ex, fun _ a na => ?_, nofun⟩⟩
    · wtm_at "rd"
      exact q true H' s ⟨fun _ => h, fun _ => rfl⟩
    · wtm_at "rd"
      refine q false H' s ⟨nofun, fun ⟨p, e⟩ => ?_⟩
      rw [h] at e
      cases e
structure IDc (P : Program) (w : World) (K : PySem.W.Frag) (mg : Str → Option Value) (base : Heap) : Prop where
  is_path : Cal P w K mg base CX0 4 "is_path" (spIsPD K)
  slope : Cal P w K mg base CX0 1 "slope" spSlope
theorem ok_isCpD {f : Addr} {fd : FuncData} (F : Fun K "is_certificate_path" "is_certificate_path" s_is_certificate_path f fd) (B : Bt mg) (C : IDc P w K mg base) : FnG P w K mg base CX0 5 f fd ["graph", "state", "candidate", "node", "direction", "pinned"] (spIsCpD K) := by
  refine fnG0 F sc_is_certificate_path (fun vs H Q E h => ?_) (fun cdv A outer s H vs Q E hr h => ?_)
  · obtain ⟨g, n, e, st, ps, v, d, x, dir, ns, ord, pn, es, f, rfl, _⟩ := h
    rfl
  · obtain ⟨g, n, e, st, ps, v, d, x, dir, ns, ord, pn, es, f, rfl, gs, n60, dp, hps, q⟩ := h
    have nd := sc_is_certificate_path.nd
    have hu := hr.u1
    refine ⟨_, (pss_cons (ps_if (PW.pt (pw_or (pt_not (pt_val (pe_c C.is_path hr (by decide) rfl (pa_cons (pv 0) (pa_cons (pv 2) pa_nil))))) (pw_or1 (pt_cmpR (kNe K rfl hr.u64) (pe_ix (kIx K rfl) (pv 2) pe_int (fun _ _ => rfl)) (pv 3) (nomark _))))) (pss_one (ps_ret pe_bl)) pss_nil)
  (pss_cons (ps_if (pt_not (pt_val (pe_callB (kAll K rfl rfl) (by rfl) B.all bb_all (pa_cons (pe_lc (own := [("i", 6)]) rfl nd (pi_range1 rfl B.range (pa_cons (pe_op uSub (pe_callB (kLen K rfl) (by rfl) B.len bb_len (pa_cons (pv 2) pa_nil)) pe_int) pa_nil)) (blkOk_by (own := [("i", 6)]) (N := nN_is_certificate_path) (sc := defScope s_is_certificate_path) (by decide +kernel)) (fun _ _ _ _ _ => (pg_name (i := 6) nd rfl (by first | exact Or.inl rfl | exact Or.inr rfl))) (fun _ _ _ _ _ => pts_nil) (fun _ _ _ _ _ => (pe_cmpR (kEq K rfl hr.u64) (pe_c C.slope hr (by decide) rfl (pa_cons (pv 1) (pa_cons (pe_ix (kIx K rfl) (pv 2) (pv 6) (fun _ _ => rfl)) (pa_cons (pe_ix (kIx K rfl) (pv 2) (pe_op (kAdd K rfl) (pv 6) pe_int) (fun _ _ => rfl)) pa_nil)))) (pv 4) (nomark _)))) pa_nil)))) (pss_one (ps_ret pe_bl)) pss_nil)
  (pss_one (ps_ret (pe_or (pe_cmpR (kIn K rfl) (pe_ix (kIx K rfl) (pv 2) (pe_un un_neg pe_int) (fun _ _ => rfl)) (pv 5) rfl) (pe_one (pe_cmpR (kIn K rfl) (pe_ix (kIx K rfl) (pv 2) (pe_un un_neg pe_int) (fun _ _ => rfl)) (pe_slice (kSl K rfl) (pv 2) po_none (po_some (pe_un un_neg pe_int))) rfl))))))), ?_⟩
    wtm_at "rd"
    refine ⟨g, n, e, v, some d, ns, es, rfl, gs.grs, .dat dp, fun b0 H1 s1 hb => ?_⟩
    wtm_at "rd"
    cases b0 with
    | false =>
      wtm_at "rd"
      refine q false H1 s1 ⟨nofun, fun ⟨p, h, _⟩ => ?_⟩
      have := hb.mpr ⟨p, h⟩
      cases this
    | true =>
    obtain ⟨p, hpd⟩ := hb.mp rfl
    have hpd : pathD ns (es.map (·.2)) d = some p := hpd
    obtain ⟨rfl, pp, p1000, pin, wk⟩ := pathD_some.mp hpd
    obtain ⟨pl, rfl, hpl⟩ := dp_list dp
    have only : ∀ {X : Prop}, (p.head? = some x → SlP (es.map (·.2)) f dir p → (∃ y, p.getLast? = some y ∧ (y ∈ pn ∨ y ∈ p.dropLast)) → X) → cerD ns (es.map (·.2)) f pn dir x (.list (p.map PyData.str)) → X := fun k ⟨p2, h, a, b, c⟩ => by
      rw [hpd] at h
      cases h
      exact k a b c
    obtain ⟨x0, hd0, _⟩ := head_ofD pp
    obtain ⟨y, la, _⟩ := last_ofD pp
    wtm_at "rd"
    refine rd_ixL (Same.seqLD s1 hpl) (v := .str x0) (atI_hd hd0) ?_
    wtm_at "rd"
    refine rd_nsplit (fun c0 => ?_) (fun c0 => ?_)
    · wtm_at "rd"
      refine q false H1 s1 ⟨nofun, only fun h _ _ => ?_⟩
      rw [hd0] at h
      cases h
      exact absurd rfl c0
    have c0 : x0 = x := c0
    subst c0
    wtm_at "rd"
    refine rd_lenL (Same.seqLD s1 hpl) ?_
    rw [List.length_map]
    wtm_at "rd"
    intro D fD
    have en : ((p.length : Int) - 1).toNat = p.length - 1 := by omega
    rw [en]
    refine lcR (fun i H' => ∃ bs : List Bool, Same H1 H' ∧ H' D = some (.lst (bs.map V.bl)) ∧ bs.length = i ∧ (bs.all id = true ↔ ∀ j (h : j + 1 < p.length), j < i → slp f p[j] p[j + 1] = dir)) ⟨[], Same.new fD, upd_same, rfl, ⟨fun _ j h z => absurd z (Nat.not_lt_zero _), fun _ => rfl⟩⟩ ?_ ?_
    · rintro i H' hi ⟨bs, sb, hD, bl, be⟩
      have sX := s1.trans sb
      have hp := Same.seqLD sX hpl
      wtm_at "rd"
      refine rd_ixL hp (v := .str p[i]) (by rw [Int.zero_add]; exact atI_nat (by rw [List.getElem?_map, List.getElem?_eq_getElem (by omega)]; rfl)) ?_
      wtm_at "rd"
      refine rd_ixL hp (v := .str p[i + 1]) (by rw [show (0 : Int) + (i : Int) + 1 = ((i + 1 : Nat) : Int) from by omega]; exact atI_nat (by rw [List.getElem?_map, List.getElem?_eq_getElem (by omega)]; rfl)) ?_
      wtm_at "rd"
      refine ⟨st, _, _, ord, f, rfl, .inl (sX _ _ gs.st), gs.inO _ (pin _ (List.getElem_mem _)), gs.inO _ (pin _ (List.getElem_mem _)), ?_⟩
      wtm_at "rd"
      refine rd_acc hD (by rw [List.length_map]; omega) ?_
      refine ⟨bs ++ [decide (slp f p[i] p[i + 1] = dir)], same_put sb fD, by rw [upd_same, List.map_append]; rfl, by rw [List.length_append, bl]; rfl, ?_⟩
      rw [List.all_append, Bool.and_eq_true, be]
      constructor
      · rintro ⟨a, b⟩ j hj ji
        by_cases z : j = i
        · subst z
          exact of_decide_eq_true (by simpa using b)
        · exact a j hj (by omega)
      · intro a
        exact ⟨fun j hj ji => a j hj (by omega), by simpa using a i (by omega) (by omega)⟩
    · rintro H2 ⟨bs, sb, hD, bl, be⟩
      have sX := s1.trans sb
      wtm_at "rd"
      refine rd_allL (SqL.of hD) ?_
      have sle : bs.all id = true ↔ SlP (es.map (·.2)) f dir p := by
        rw [be]
        exact ⟨fun a => SlP.of fun i hi => ⟨wk_atW wk i hi, a i hi (by omega)⟩, fun a j hj _ => (a.at j hj).2⟩
      generalize bs.all id = bb at sle
      cases bb with
      | false =>
        wtm_at "rd"
        exact q false H2 sX ⟨nofun, only fun _ h _ => nomatch sle.mpr h⟩
      | true =>
        have sl := sle.mp rfl
        have ye : cerD ns (es.map (·.2)) f pn dir x0 (.list (p.map PyData.str)) ↔ (y ∈ pn ∨ y ∈ p.dropLast) := ⟨only fun _ _ ⟨z, l2, a⟩ => by
          rw [la] at l2
          cases l2
          exact a, fun a => ⟨p, hpd, hd0, sl, y, la, a⟩⟩
        wtm_at "rd"
        refine rd_ixL (Same.seqLD sX hpl) (v := .str y) (atI_la la) ?_
        wtm_at "rd"
        refine rd_inST (Same.seqT sX hps) ?_
        wtm_at "rd"
        refine rd_split (fun c1 => ?_) (fun c1 => ?_)
        · exact q true H2 sX ⟨fun _ => ye.mpr (.inl c1), fun _ => rfl⟩
        · wtm_at "rd"
          refine rd_ixL (Same.seqLD sX hpl) (v := .str y) (atI_la la) ?_
          wtm_at "rd"
          refine rd_slL (Same.seqLD sX hpl) ?_
          rw [cutV_dl, ← List.map_dropLast]
          intro t ft
          have k := Same.new (o := .lst (p.dropLast.map V.str)) ft
          refine rd_inSL (SqL.of upd_same) ?_
          refine q _ _ (sX.trans k) ?_
          rw [decide_eq_true_iff, ye]
          exact ⟨.inr, fun z => z.resolve_left c1⟩
structure IDd (P : Program) (w : World) (K : PySem.W.Frag) (mg : Str → Option Value) (base : Heap) : Prop where
  has_node : Cal P w K mg base CX0 1 "has_node" (spHasV K)
  is_certificate_path : Cal P w K mg base CX0 5 "is_certificate_path" (spIsCpD K)
  UP : ∃ u, mg "UP" = some u ∧ RelV (.int 1) u
  DOWN : ∃ u, mg "DOWN" = some u ∧ RelV (.int (-1)) u
theorem ok_isFcD {f : Addr} {fd : FuncData} (F : Fun K "is_frozen_certificate" "is_frozen_certificate" s_is_frozen_certificate f fd) (B : Bt mg) (C : IDd P w K mg base) : FnG P w K mg base CX0 6 f fd ["graph", "state", "node", "candidate", "pinned"] (spIsFcD K) := by
  refine fnG0 F sc_is_frozen_certificate (fun vs H Q E h => ?_) (fun cdv A outer s H vs Q E hr h => ?_)
  · obtain ⟨g, n, e, st, ps, v, d, x, ns, ord, pn, es, f, rfl, _⟩ := h
    rfl
  · obtain ⟨g, n, e, st, ps, v, d, x, ns, ord, pn, es, f, rfl, gs, n60, hx, hps, dp, q⟩ := h
    have nd := sc_is_frozen_certificate.nd
    have hu := hr.u1
    refine ⟨_, (pss_cons (ps_if (PW.pt (pw_or (pt_not (pt_val (pe_c C.has_node hr (by decide) rfl (pa_cons (pv 0) (pa_cons (pv 2) pa_nil))))) (pw_or (pt_not (pt_val (pe_callB (kIsi K rfl) (by rfl) B.isinstance bb_isinstance (pa_cons (pv 3) (pa_cons (pe_ty rfl B.tuple bb_tuple) pa_nil))))) (pw_or1 (pt_cmpR (kNe K rfl hr.u64) (pe_callB (kLen K rfl) (by rfl) B.len bb_len (pa_cons (pv 3) pa_nil)) pe_int (nomark _)))))) (pss_one (ps_ret pe_bl)) pss_nil)
  (pss_cons (ps_if (pt_not (pt_val (pe_c C.is_certificate_path hr (by decide) rfl (pa_cons (pv 0) (pa_cons (pv 1) (pa_cons (pe_ix (kIx K rfl) (pv 3) pe_int (fun _ _ => rfl)) (pa_cons (pv 2) (pa_cons (pe_gl rfl C.UP) (pa_cons (pv 4) pa_nil))))))))) (pss_one (ps_ret pe_bl)) pss_nil)
  (pss_one (ps_ret (pe_c C.is_certificate_path hr (by decide) rfl (pa_cons (pv 0) (pa_cons (pv 1) (pa_cons (pe_ix (kIx K rfl) (pv 3) pe_int (fun _ _ => rfl)) (pa_cons (pv 2) (pa_cons (pe_gl rfl C.DOWN) (pa_cons (pv 4) pa_nil))))))))))), ?_⟩
    wtm_at "rd"
    refine ⟨g, n, e, _, .str, ns, es, rfl, gs.gr, .inr ⟨x, rfl, ?_⟩⟩
    rw [decide_eq_true hx]
    wtm_at "rd"
    have alt : (∃ t, TyIs K H v t ∧ isT t .tup = false ∧ ∀ ds, d ≠ .tuple ds) ∨ ∃ a us ds, v = .ref a ∧ d = .tuple ds ∧ SqT K H a us ∧ DpAll K H us ds ∧ TyIs K H v .tup := by
      rcases dp_ty dp with ⟨s, rfl, rfl⟩ | ⟨a, us, ds, rfl, rfl, h1, h2, h3⟩ | ⟨a, us, ds, rfl, rfl, h1, h2, h3⟩ | ⟨t, h1, h2, h3, h4, h5, h6, h7⟩
      · exact .inl ⟨_, ty_str, rfl, nofun⟩
      · exact .inl ⟨_, h3, rfl, nofun⟩
      · exact .inr ⟨a, us, ds, rfl, rfl, h1, h2, h3⟩
      · exact .inl ⟨t, h1, h3, h7⟩
    rcases alt with ⟨t, ty, nt, no⟩ | ⟨ce, us, ds, rfl, rfl, hce, dps, ty⟩
    · refine rd_isi ty (t := .tup) (by decide +kernel) ?_
      rw [nt]
      wtm_at "rd"
      exact q false H (fun b o h => h) ⟨nofun, fun ⟨d1, d2, e, _⟩ => absurd e (no _)⟩
    have ul := dpaLen dps
    refine rd_isi ty (t := .tup) (by decide +kernel) ?_
    rw [show isT Ty.tup Ty.tup = true from rfl]
    wtm_at "rd"
    refine rd_lenT hce ?_
    wtm_at "rd"
    refine rd_nsplit (fun c0 => ?_) (fun c0 => ?_)
    · wtm_at "rd"
      refine q false H (fun b o h => h) ⟨nofun, fun ⟨d1, d2, e, _⟩ => ?_⟩
      injection e with e
      rw [e] at ul
      exact absurd (show ((us.length : Nat) : Int) = 2 by rw [ul]; rfl) c0
    have c0 : ((us.length : Nat) : Int) = 2 := c0
    obtain ⟨u1, u2, rfl⟩ : ∃ a b, us = [a, b] := by
      match us, c0 with
      | [a, b], _ => exact ⟨a, b, rfl⟩
      | [], h => cases h
      | [_], h => exact absurd h (by simp)
      | _ :: _ :: _ :: r, h =>
        rw [List.length_cons, List.length_cons, List.length_cons] at h
        omega
    obtain ⟨d1, d2, rfl, dp1, dp2⟩ : ∃ a b, ds = [a, b] ∧ Dp K H u1 a ∧ Dp K H u2 b := by
      cases dps with
      | cons a r =>
        cases r with
        | cons b r =>
          cases r
          exact ⟨_, _, rfl, a, b⟩
    have only : ∀ {X : Prop}, (cerD ns (es.map (·.2)) f pn 1 x d1 → cerD ns (es.map (·.2)) f pn (-1) x d2 → X) → fcD ns (es.map (·.2)) f pn x (.tuple [d1, d2]) → X := fun k ⟨a, b, e, h1, h2⟩ => by
      injection e with e
      injection e with e1 e
      injection e with e2
      subst e1
      subst e2
      exact k h1 h2
    wtm_at "rd"
    refine rd_ixT hce (v := u1) rfl ?_
    wtm_at "rd"
    refine ⟨g, n, e, st, ps, u1, d1, x, 1, ns, ord, pn, es, f, rfl, gs, n60, dp1, hps, fun b1 H1 s1 hb1 => ?_⟩
    wtm_at "rd"
    cases b1 with
    | false =>
      wtm_at "rd"
      exact q false H1 s1 ⟨nofun, only fun h _ => nomatch hb1.mpr h⟩
    | true =>
      wtm_at "rd"
      refine rd_ixT (Same.seqT s1 hce) (v := u2) rfl ?_
      wtm_at "rd"
      exact ⟨g, n, e, st, ps, u2, d2, x, -1, ns, ord, pn, es, f, rfl, gs.same s1, n60, Dp.same dp2 s1, Same.seqT s1 hps, fun b2 H2 s2 hb2 => q b2 H2 (s1.trans s2) ⟨fun z => ⟨d1, d2, rfl, hb1.mp rfl, hb2.mp z⟩, only fun _ h => hb2.mpr h⟩⟩
end
end Law


/-! is_obstruction of any data -/
namespace U
open PySem PySem.Spec PyProof.Rows L2
section
variable {ns : List Str} {es : List (Str × Str)} {f g : Str → Int} {pn : List Str}
end
end U
namespace Law
open PySem PySem.Spec PyProof.Rows L2 U LamX


section
variable {P : Program} {w : World} {K : PySem.W.Frag} {mg : Str → Option Value} {base : Heap}
end
end Law


/-! is_obstruction of what has the shape of an obstruction: right or not -/
namespace Law
open PySem PySem.Spec PyProof.Rows L2 U LamX


/-- a path of nodes, a walk or not -/
structure RawP (ns : List Str) (n : Nat) (p : List Str) : Prop where
  pos : 1 ≤ p.length
  le : p.length ≤ n
  in_ : ∀ y ∈ p, y ∈ ns
/-- what has the shape of an obstruction, with its paths -/
inductive RawO (ns : List Str) (H : Hp) (t : Addr) : List (List Str) → Prop
  | cyc {a : Addr} {c : List Str} : H t = some (.tup [.str "cycle", .ref a]) → H a = some (.lst (c.map V.str)) → RawP ns 1000 c → RawO ns H t [c]
  | node {x : Str} {ce a b : Addr} {p q : List Str} : H t = some (.tup [.str "node", .str x, .ref ce]) → H ce = some (.tup [.ref a, .ref b]) → H a = some (.lst (p.map V.str)) → H b = some (.lst (q.map V.str)) → x ∈ ns → RawP ns (2 * ns.length + 20) p → RawP ns (2 * ns.length + 20) q → RawO ns H t [[x], p, q]
  | path {l c1 c2 a1 b1 a2 b2 : Addr} {p p1 q1 p2 q2 : List Str} : H t = some (.tup [.str "path", .ref l, .ref c1, .ref c2]) → H l = some (.lst (p.map V.str)) → H c1 = some (.tup [.ref a1, .ref b1]) → H a1 = some (.lst (p1.map V.str)) → H b1 = some (.lst (q1.map V.str)) → H c2 = some (.tup [.ref a2, .ref b2]) → H a2 = some (.lst (p2.map V.str)) → H b2 = some (.lst (q2.map V.str)) →
      RawP ns 1000 p → RawP ns (2 * ns.length + 20) p1 → RawP ns (2 * ns.length + 20) q1 → RawP ns (2 * ns.length + 20) p2 → RawP ns (2 * ns.length + 20) q2 → RawO ns H t [p, p1, q1, p2, q2]
theorem RawO.keep {ns : List Str} {H H' : Hp} {t : Addr} {ps : List (List Str)} (kt : ∀ a xs, H a = some (.tup xs) → H' a = some (.tup xs)) (ks : ∀ a (xs : List Str), xs ≠ [] → H a = some (.lst (xs.map V.str)) → H' a = some (.lst (xs.map V.str))) (h : RawO ns H t ps) : RawO ns H' t ps := by
  have ne : ∀ {n : Nat} {p : List Str}, RawP ns n p → p ≠ [] := fun c z => by
    have := c.pos
    rw [z] at this
    cases this
  cases h with
  | cyc a b c => exact .cyc (kt _ _ a) (ks _ _ (ne c) b) c
  | node a b c d e i j => exact .node (kt _ _ a) (kt _ _ b) (ks _ _ (ne i) c) (ks _ _ (ne j) d) e i j
  | path a b c d e i j k l m n o p => exact .path (kt _ _ a) (ks _ _ (ne l) b) (kt _ _ c) (ks _ _ (ne m) d) (ks _ _ (ne n) e) (kt _ _ i) (ks _ _ (ne o) j) (ks _ _ (ne p) k) l m n o p
theorem RawO.same {ns : List Str} {H H' : Hp} {t : Addr} {ps : List (List Str)} (h : RawO ns H t ps) (s : Same H H') : RawO ns H' t ps := h.keep (fun _ _ => s _ _) fun _ _ _ => s _ _
theorem wk_of {es : List (Str × Str)} : ∀ {p : List Str}, (∀ i (h : i + 1 < p.length), Adj es p[i] p[i + 1]) → Wk es p
  | [], _ => trivial
  | [a], _ => trivial
  | a :: b :: q, h => ⟨h 0 (by simp), wk_of fun i hi => h (i + 1) (by simpa using hi)⟩
section
variable {P : Program} {w : World} {K : PySem.W.Frag} {mg : Str → Option Value} {base : Heap}
end
end Law


/-! k68's random constraints, a random path -/
namespace U
open PySem PySem.Spec PyProof.Rows L2
theorem sort2gS {a b : Str} {ys : List Str} (p : ys.Perm [a, b]) (s : ys.Pairwise fun a b => ¬ sLt b a) : ys = [(eOf a b).1, (eOf a b).2] := by
  by_cases n : a = b
  · subst n
    have l := p.length_eq
    match ys, l with
    | [y1, y2], _ =>
      have m1 : y1 ∈ [a, a] := p.mem_iff.mp List.mem_cons_self
      have m2 : y2 ∈ [a, a] := p.mem_iff.mp (List.mem_cons_of_mem _ List.mem_cons_self)
      simp only [List.mem_cons, List.not_mem_nil, or_false, or_self] at m1 m2
      subst m1
      rw [m2]
      rcases eOf_cases y1 y1 with z | z <;> rw [z]
  · exact sort2 n p s
def CstN (ns : List Str) (c : List Str) : Prop := (∃ x : Str, x ∈ ns ∧ c = ([("pin" : Str), x] : List Str)) ∨ ∃ a b : Str, a ∈ ns ∧ b ∈ ns ∧ c = ([("edge" : Str), a, b] : List Str)
theorem CstN.t {ns : List Str} {c : List Str} (h : CstN ns c) : CstT c := by
  rcases h with ⟨x, _, e⟩ | ⟨a, b, _, _, e⟩
  · exact .inl ⟨x, e⟩
  · exact .inr ⟨a, b, e⟩
theorem pin_ok : PyData.strOk "pin" = true := by decide +kernel
theorem edge_ok : PyData.strOk "edge" = true := by decide +kernel
theorem CstN.ok {ns : List Str} {c : List Str} (h : CstN ns c) (sok : ∀ x ∈ ns, PyData.strOk x = true) : ∀ y ∈ c, PyData.strOk y = true := by
  rcases h with ⟨x, hx, rfl⟩ | ⟨a, b, ha, hb, rfl⟩
  · intro y hy
    simp only [List.mem_cons, List.not_mem_nil, or_false] at hy
    rcases hy with rfl | rfl
    · exact pin_ok
    · exact sok _ hx
  · intro y hy
    simp only [List.mem_cons, List.not_mem_nil, or_false] at hy
    rcases hy with rfl | rfl | rfl
    · exact edge_ok
    · exact sok _ ha
    · exact sok _ hb
end U
namespace Law
open PySem PySem.Spec PyProof.Rows L2 U


theorem TxtsAt.go {p : Addr} {H H' : Hp} {cs : List (Addr × List Str)} (h : TxtsAt H cs) (hp : PoolAt H p) (g : Go p H H') : TxtsAt H' cs := fun x hx => g.at (h x hx) (hp.offTB (h x hx))
section
variable {P : Program} {w : World} {K : PySem.W.Frag} {mg : Str → Option Value} {base : Heap}
end
end Law


/-! relaxations: without, search, find_relaxation -/
namespace Law
open PySem PySem.Spec PyProof.Rows L2 U LamX


theorem mapC {α β : Type} {F G : α → β → Prop} (h : ∀ a b, F a b → G a b) : ∀ {xs : List α} {ys : List β}, Paired F xs ys → Paired G xs ys
  | _, _, .nil => .nil
  | _, _, .cons a r => .cons (h _ _ a) (mapC h r)
/-- a frozen certificate with its two paths -/
def CerQ (H : Hp) (ce : Addr) (ns : List Str) (es : List (Str × Str)) (f : Str → Int) (pn : List Str) (x : Str) (p q : List Str) : Prop :=
  ∃ a b, H ce = some (.tup [.ref a, .ref b]) ∧ H a = some (.lst (p.map V.str)) ∧ H b = some (.lst (q.map V.str)) ∧ CerP ns es f pn 1 x p ∧ CerP ns es f pn (-1) x q
/-- an obstruction with its paths -/
inductive ObsQ (ns : List Str) (es : List (Str × Str)) (f g : Str → Int) (pn : List Str) (H : Hp) (t : Addr) : List (List Str) → Prop
  | cyc {a : Addr} {c : List Str} {z : Str} : H t = some (.tup [.str "cycle", .ref a]) → H a = some (.lst (c.map V.str)) → Wk es c → c.head? = some z → c.getLast? = some z → (∀ y ∈ c, y ∈ ns) → c.length ≤ 1000 → psum f c ≠ psum g c → ObsQ ns es f g pn H t [c]
  | node {x : Str} {ce : Addr} {p q : List Str} : H t = some (.tup [.str "node", .str x, .ref ce]) → CerQ H ce ns es f pn x p q → x ∈ ns → f x ≠ g x → ObsQ ns es f g pn H t [[x], p, q]
  | path {a c1 c2 : Addr} {p p1 q1 p2 q2 : List Str} {x y : Str} : H t = some (.tup [.str "path", .ref a, .ref c1, .ref c2]) → H a = some (.lst (p.map V.str)) → Wk es p → p.head? = some x → p.getLast? = some y → (∀ z ∈ p, z ∈ ns) → p.length ≤ 1000 → psum f p ≠ psum g p → CerQ H c1 ns es f pn x p1 q1 → CerQ H c2 ns es f pn y p2 q2 → ObsQ ns es f g pn H t [p, p1, q1, p2, q2]
section
variable {ns : List Str} {es : List (Str × Str)} {f g : Str → Int} {pn : List Str} {H H' : Hp} {t : Addr} {ps : List (List Str)}
theorem CerQ.at {ce : Addr} {x : Str} {p q : List Str} (h : CerQ H ce ns es f pn x p q) : CertAt H ce ns es f pn x := by
  obtain ⟨a, b, r⟩ := h
  exact ⟨a, b, p, q, r⟩
theorem CertAt.q {ce : Addr} {x : Str} (h : CertAt H ce ns es f pn x) : ∃ p q, CerQ H ce ns es f pn x p q := by
  obtain ⟨a, b, p, q, r⟩ := h
  exact ⟨p, q, a, b, r⟩
theorem ObsAt.q (h : ObsAt ns es f g pn H t) : ∃ ps, ObsQ ns es f g pn H t ps := by
  cases h with
  | cyc a b c d e i j k => exact ⟨_, .cyc a b c d e i j k⟩
  | node a b c d =>
    obtain ⟨p, q, b⟩ := b.q
    exact ⟨_, .node a b c d⟩
  | path a b c d e i j k l m =>
    obtain ⟨_, _, l⟩ := l.q
    obtain ⟨_, _, m⟩ := m.q
    exact ⟨_, .path a b c d e i j k l m⟩
theorem ObsQ.at (h : ObsQ ns es f g pn H t ps) : ObsAt ns es f g pn H t := by
  cases h with
  | cyc a b c d e i j k => exact .cyc a b c d e i j k
  | node a b c d => exact .node a b.at c d
  | path a b c d e i j k l m => exact .path a b c d e i j k l.at m.at
theorem CerQ.keep {ce : Addr} {x : Str} {p q : List Str} (kt : ∀ a xs, H a = some (.tup xs) → H' a = some (.tup xs)) (ks : ∀ a (xs : List Str), xs ≠ [] → H a = some (.lst (xs.map V.str)) → H' a = some (.lst (xs.map V.str))) (h : CerQ H ce ns es f pn x p q) : CerQ H' ce ns es f pn x p q := by
  obtain ⟨a, b, h1, h2, h3, c1, c2⟩ := h
  have ne : ∀ {dir : Int} {p : List Str}, CerP ns es f pn dir x p → p ≠ [] := fun c z => by
    have := c.hd
    rw [z] at this
    cases this
  exact ⟨a, b, kt _ _ h1, ks _ _ (ne c1) h2, ks _ _ (ne c2) h3, c1, c2⟩
theorem ObsQ.keep (kt : ∀ a xs, H a = some (.tup xs) → H' a = some (.tup xs)) (ks : ∀ a (xs : List Str), xs ≠ [] → H a = some (.lst (xs.map V.str)) → H' a = some (.lst (xs.map V.str))) (h : ObsQ ns es f g pn H t ps) : ObsQ ns es f g pn H' t ps := by
  have ne : ∀ {p : List Str} {z : Str}, p.head? = some z → p ≠ [] := fun c z => by
    rw [z] at c
    cases c
  cases h with
  | cyc a b c d e i j k => exact .cyc (kt _ _ a) (ks _ _ (ne d) b) c d e i j k
  | node a b c d => exact .node (kt _ _ a) (b.keep kt ks) c d
  | path a b c d e i j k l m => exact .path (kt _ _ a) (ks _ _ (ne d) b) c d e i j k (l.keep kt ks) (m.keep kt ks)
theorem CerQ.at1 {ce : Addr} {x : Str} {p q : List Str} (h : CerQ H ce ns es f pn x p q) : PAt 1 H (.ref ce) [p, q] := by
  obtain ⟨a, b, h1, h2, h3, _⟩ := h
  refine .inr ⟨ce, [(.ref a, [p]), (.ref b, [q])], rfl, h1, fun x hx => ?_, rfl⟩
  simp only [List.mem_cons, List.not_mem_nil, or_false] at hx
  rcases hx with rfl | rfl
  · exact .inr ⟨a, p, rfl, h2, rfl⟩
  · exact .inr ⟨b, q, rfl, h3, rfl⟩
theorem CerQ.len {ce : Addr} {x : Str} {p q : List Str} (h : CerQ H ce ns es f pn x p q) (l : ns.length ≤ 100) : p.length ≤ 1000 ∧ q.length ≤ 1000 := by
  obtain ⟨_, _, _, _, _, c1, c2⟩ := h
  have := c1.ln
  have := c2.ln
  omega
end
/-- what stands in H for good -/
def HasN (H : Hp) (a : Addr) : Prop := ∃ o, H a = some o ∧ ∀ ps, o ≠ .tbl ps
theorem HasN.ext {H H' : Hp} {a : Addr} (h : HasN H a) (x : ExtN H H') : HasN H' a := by
  obtain ⟨o, h1, h2⟩ := h
  exact ⟨o, x a o h1 h2, h2⟩
/-- a certificate of depth n, its lists outside W -/
def CeAt (ns : List Str) (f g : Str → Int) : Nat → (Addr → Prop) → Hp → List (Str × Str) → List Str → List (List Str) → V → Prop
  | 0, W, H, es, pn, cs, v => ∃ (a ob l : Addr) (ps : List (List Str)), v = .ref a ∧ H a = some (.tup [.ref ob, .ref l]) ∧ ObsQ ns es f g pn H ob ps ∧ H l = some (.lst []) ∧ ¬ W l
  | n + 1, W, H, es, pn, cs, v => ∃ (a ob l : Addr) (ps : List (List Str)) (vs : List V), v = .ref a ∧ H a = some (.tup [.ref ob, .ref l]) ∧ ObsQ ns es f g pn H ob ps ∧ H l = some (.lst vs) ∧ ¬ W l ∧
    Paired (fun v c => CeAt ns f g n W H (esW es [c]) (pnW pn [c]) (cs.filter fun d => !decide (d = c)) v) vs (cs.filter fun c => namedF ps c)
section
variable {ns : List Str} {f g : Str → Int} {W W' : Addr → Prop} {H H' : Hp}
theorem CeAt.keep (kt : ∀ a xs, H a = some (.tup xs) → H' a = some (.tup xs)) (ks : ∀ a (xs : List Str), xs ≠ [] → H a = some (.lst (xs.map V.str)) → H' a = some (.lst (xs.map V.str))) (kl : ∀ a xs, ¬ W a → H a = some (.lst xs) → H' a = some (.lst xs)) : ∀ {n : Nat} {es : List (Str × Str)} {pn : List Str} {cs : List (List Str)} {v : V}, CeAt ns f g n W H es pn cs v → CeAt ns f g n W H' es pn cs v
  | 0, es, pn, cs, v, h => by
    unfold CeAt at h ⊢
    obtain ⟨a, ob, l, ps, e, h1, h2, h3, h4⟩ := h
    exact ⟨a, ob, l, ps, e, kt _ _ h1, h2.keep kt ks, kl _ _ h4 h3, h4⟩
  | n + 1, es, pn, cs, v, h => by
    unfold CeAt at h ⊢
    obtain ⟨a, ob, l, ps, vs, e, h1, h2, h3, h4, h5⟩ := h
    exact ⟨a, ob, l, ps, vs, e, kt _ _ h1, h2.keep kt ks, kl _ _ h4 h3, h4, mapC (fun v c z => CeAt.keep kt ks kl z) h5⟩
theorem CeAt.ext {n : Nat} {es : List (Str × Str)} {pn : List Str} {cs : List (List Str)} {v : V} (h : CeAt ns f g n W H es pn cs v) (x : ExtN H H') : CeAt ns f g n W H' es pn cs v := h.keep (fun _ _ => ExtN.tu x) (fun _ _ _ => ExtN.li x) (fun _ _ _ => ExtN.li x)
theorem CeAt.mono (w : ∀ a, W' a → W a) : ∀ {n : Nat} {es : List (Str × Str)} {pn : List Str} {cs : List (List Str)} {v : V}, CeAt ns f g n W H es pn cs v → CeAt ns f g n W' H es pn cs v
  | 0, es, pn, cs, v, h => by
    unfold CeAt at h ⊢
    obtain ⟨a, ob, l, ps, e, h1, h2, h3, h4⟩ := h
    exact ⟨a, ob, l, ps, e, h1, h2, h3, fun z => h4 (w _ z)⟩
  | n + 1, es, pn, cs, v, h => by
    unfold CeAt at h ⊢
    obtain ⟨a, ob, l, ps, vs, e, h1, h2, h3, h4, h5⟩ := h
    exact ⟨a, ob, l, ps, vs, e, h1, h2, h3, fun z => h4 (w _ z), mapC (fun v c z => CeAt.mono w z) h5⟩
end
theorem CstN.kind {ns : List Str} {c : List Str} (h : CstN ns c) : (∃ x ∈ ns, c = ([("pin" : Str), x] : List Str) ∧ (∀ es, esW es [c] = es) ∧ ∀ pn, pnW pn [c] = pn.filter fun y => !decide (y = x)) ∨ ∃ a b : Str, a ∈ ns ∧ b ∈ ns ∧ c = ([("edge" : Str), a, b] : List Str) ∧ (∀ pn, pnW pn [c] = pn) ∧ ∀ es, esW es [c] = es.filter fun e => !decide ([e.1, e.2] = [a, b]) := by
  rcases h with ⟨x, hx, rfl⟩ | ⟨a, b, ha, hb, rfl⟩
  · refine .inl ⟨x, hx, rfl, fun es => List.filter_eq_self.mpr fun e _ => ?_, fun pn => List.filter_congr fun y _ => ?_⟩
    · simp
    · rw [Bool.eq_iff_iff]
      simp
  · refine .inr ⟨a, b, ha, hb, rfl, fun pn => List.filter_eq_self.mpr fun e _ => ?_, fun es => List.filter_congr fun e _ => ?_⟩
    · simp
    · rw [Bool.eq_iff_iff]
      simp [pin_ne]
section
variable {P : Program} {w : World} {K : PySem.W.Frag} {mg : Str → Option Value} {base : Heap}
end
end Law


/-! k68's random constraints -/
namespace U
open PySem PySem.Spec PyProof.Rows L2
/-- a path of the obstruction -/
def PthN (ns : List Str) (q : List Str) : Prop := (∀ x ∈ q, x ∈ ns) ∧ 0 < q.length ∧ q.length ≤ 10
/-- an obstruction and its paths -/
def ObAt (H : Hp) (ob : Addr) (ps : List (List Str)) : Prop :=
  (∃ (l : Addr) (q : List Str), H ob = some (.tup [.str "cycle", .ref l]) ∧ H l = some (.lst (q.map V.str)) ∧ ps = [q]) ∨
  (∃ (x : Str) (t l1 l2 : Addr) (q1 q2 : List Str), H ob = some (.tup [.str "node", .str x, .ref t]) ∧ H t = some (.tup [.ref l1, .ref l2]) ∧ H l1 = some (.lst (q1.map V.str)) ∧ H l2 = some (.lst (q2.map V.str)) ∧ ps = [[x], q1, q2]) ∨
  ∃ (l0 t1 t2 l1 l2 l3 l4 : Addr) (q0 q1 q2 q3 q4 : List Str), H ob = some (.tup [.str "path", .ref l0, .ref t1, .ref t2]) ∧ H l0 = some (.lst (q0.map V.str)) ∧ H t1 = some (.tup [.ref l1, .ref l2]) ∧ H t2 = some (.tup [.ref l3, .ref l4]) ∧
    H l1 = some (.lst (q1.map V.str)) ∧ H l2 = some (.lst (q2.map V.str)) ∧ H l3 = some (.lst (q3.map V.str)) ∧ H l4 = some (.lst (q4.map V.str)) ∧ ps = [q0, q1, q2, q3, q4]
theorem ObAt.same {H H' : Hp} {ob : Addr} {ps : List (List Str)} (h : ObAt H ob ps) (s : Same H H') : ObAt H' ob ps := by
  rcases h with ⟨l, q, h1, h2, e⟩ | ⟨x, t, l1, l2, q1, q2, h1, h2, h3, h4, e⟩ | ⟨l0, t1, t2, l1, l2, l3, l4, q0, q1, q2, q3, q4, h1, h2, h3, h4, h5, h6, h7, h8, e⟩
  · exact .inl ⟨l, q, s _ _ h1, s _ _ h2, e⟩
  · exact .inr (.inl ⟨x, t, l1, l2, q1, q2, s _ _ h1, s _ _ h2, s _ _ h3, s _ _ h4, e⟩)
  · exact .inr (.inr ⟨l0, t1, t2, l1, l2, l3, l4, q0, q1, q2, q3, q4, s _ _ h1, s _ _ h2, s _ _ h3, s _ _ h4, s _ _ h5, s _ _ h6, s _ _ h7, s _ _ h8, e⟩)
end U
namespace Law
open PySem PySem.Spec PyProof.Rows L2 U


section
variable {P : Program} {w : World} {K : PySem.W.Frag} {mg : Str → Option Value} {base : Heap}
end
end Law


/-! find_relaxation -/
namespace Law
open PySem PySem.Spec PyProof.Rows L2 U LamX


def CstIn (es : List (Str × Str)) (pn : List Str) (c : List Str) : Prop := (∃ x ∈ pn, c = ([("pin" : Str), x] : List Str)) ∨ ∃ e ∈ es, c = ([("edge" : Str), e.1, e.2] : List Str)
theorem CstIn.n {ns : List Str} {es : List (Str × Str)} {pn : List Str} {c : List Str} (gok : GrOk ns es) (pin : ∀ x ∈ pn, x ∈ ns) (h : CstIn es pn c) : CstN ns c := by
  rcases h with ⟨x, hx, e⟩ | ⟨x, hx, e⟩
  · exact .inl ⟨x, pin x hx, e⟩
  · exact .inr ⟨x.1, x.2, (gok.mem x hx).1, (gok.mem x hx).2, e⟩
section
variable {P : Program} {w : World} {K : PySem.W.Frag} {mg : Str → Option Value} {base : Heap}
end
end Law

/-! zip(list, list) -/
namespace U
open PySem PySem.Spec PyProof.Rows L2
theorem plainIs {h : Heap} {a : Addr} {its : Array Value} (p : PlainL h a its) : h.IsList a its := by
  obtain ⟨o, n, h1, h2, _, h3⟩ := p
  exact ⟨o, h1, h2, n, h3⟩
theorem off_iterL {h : Heap} {a it : Addr} {items : Array Value} {i : Nat} (ht : h.IsList a items) (hi : h.IsListIter it a i) : a ≠ it := by
  rintro rfl
  obtain ⟨o, ho, hc, _⟩ := ht
  obtain ⟨o2, ho2, hc2, _⟩ := hi
  rw [ho] at ho2
  cases ho2
  rw [hc] at hc2
  simp at hc2
/-- the lists at a and b, the items in new pairs -/
def ItzL (K : PySem.W.Frag) (a b : Addr) : It :=
  ⟨fun i H => ∃ (xs ys : List V) (x y : V), SqL K H a xs ∧ SqL K H b ys ∧ xs[i]? = some x ∧ ys[i]? = some y,
    fun i H v H' => ∃ T x y, v = .ref T ∧ H T = none ∧ H' = upd H T (.tup [x, y]) ∧ (∀ xs, SqL K H a xs → xs[i]? = some x) ∧ ∀ ys, SqL K H b ys → ys[i]? = some y,
    fun i H => ∃ xs ys : List V, SqL K H a xs ∧ SqL K H b ys ∧ i ≤ xs.length ∧ i ≤ ys.length ∧ (i = xs.length ∨ i = ys.length)⟩
theorem turn_zipL {P : Program} {w : World} {K : PySem.W.Frag} {elts : List Expr} {kk : Nat} {tpos : Pos} {a b z TI TO i1 i2 : Addr} (D : ZipSep2 z TI TO i1 i2 [i1, a] [i2, b]) :
    Turn P w K (.Tuple elts kk tpos) (ItzL K a b) [z, TI, TO, i1, i2] z (fun i h => IsZip h z TI TO .none ∧ IsTupOf2 h TI (.ref i1) (.ref i2) ∧ (∃ x y, IsTupOf2 h TO x y) ∧ h.IsListIter i1 a i ∧ h.IsListIter i2 b i) where
  mem := by simp
  obj := fun i h st c hc => by
    obtain ⟨hz, hTI, ⟨x, y, hTO⟩, ⟨o1, e1, _, d1⟩, ⟨o2, e2, _, d2⟩⟩ := st
    have e' : c = z ∨ c = TI ∨ c = TO ∨ c = i1 ∨ c = i2 := by simpa using hc
    rcases e' with q | q | q | q | q
    · rw [q]; exact ⟨_, hz, fun v q => nomatch q⟩
    · rw [q]; exact ⟨_, hTI, fun v q => nomatch q⟩
    · rw [q]; exact ⟨_, hTO, fun v q => nomatch q⟩
    · rw [q]; exact ⟨o1, e1, fun v q => by rw [d1] at q; cases q⟩
    · rw [q]; exact ⟨o2, e2, fun v q => by rw [d2] at q; cases q⟩
  keep := fun i h h' st k => by
    obtain ⟨hz, hTI, ⟨x, y, hTO⟩, h1, h2⟩ := st
    exact ⟨k z (by simp) _ hz, k TI (by simp) _ hTI, ⟨x, y, k TO (by simp) _ hTO⟩, h1.at fun o q => k i1 (by simp) o q, h2.at fun o q => k i2 (by simp) o q⟩
  item := by
    intro X hP hw hK hc i pins s σ H E I hf st hg
    subst hP hw hK
    obtain ⟨hz, hTI, ⟨x0, y0, hTO⟩, h1, h2⟩ := st
    obtain ⟨xs, ys, x, y, hqx, hqy, hx, hy⟩ := hg
    obtain ⟨its, rv, p, _⟩ := I.list hqx
    obtain ⟨its2, rv2, p2, _⟩ := I.list hqy
    obtain ⟨u, hu, ru⟩ := rv.get hx
    obtain ⟨u2, hu2, ru2⟩ := rv2.get hy
    have ht : s.heap.IsList a its.toArray := plainIs p
    have ht2 : s.heap.IsList b its2.toArray := plainIs p2
    have hzl : z < s.heap.objs.size := Heap.lt_size hz
    have hl1 : i < its.toArray.size := by
      rw [List.size_toArray]
      exact (List.getElem?_eq_some_iff.mp hu).1
    have hl2 : i < its2.toArray.size := by
      rw [List.size_toArray]
      exact (List.getElem?_eq_some_iff.mp hu2).1
    refine wpAny_pyNext_zipD2_item D (Draws.list (A := X.A.in1) (I.ok.hd hc) i1 a (off_iterL ht h1) its.toArray) (Draws.list (A := X.A.in1) (I.ok.hd hc) i2 b (off_iterL ht2 h2) its2.toArray) hz hTI hTO ⟨h1, ht⟩ ⟨h2, ht2⟩ hl1 hl2
      fun x1 x2 h' tk q1 q2 z' TO' st1 st2 hT hsz hk => ?_
    have e1 : x1 = u := by
      have q : its.toArray[i]? = some x1 := q1
      rw [List.getElem?_toArray, hu] at q
      exact (Option.some.inj q).symm
    have e2 : x2 = u2 := by
      have q : its2.toArray[i]? = some x2 := q2
      rw [List.getElem?_toArray, hu2] at q
      exact (Option.some.inj q).symm
    subst e1 e2
    refine ⟨_, rfl, wpAny_letOwnedTupleGo_zip (s := { s with heap := h', toks := tk }) z' fun h'' z'' sb => ?_⟩
    have hT2 : h''.get? s.heap.objs.size = some { cls := .type "tuple", data := .seq #[x1, x2] } := (sb.2 _ (Nat.ne_of_gt hzl)).trans hT
    have new : ObjOk X.prog X.w (upd H s.heap.objs.size (.tup [x, y])) h'' s.heap.objs.size (.tup [x, y]) :=
      ⟨by show 2 ≤ sizeLine; decide, [x1, x2], .cons ru (.cons ru2 .nil), ⟨_, hT2, rfl, _, rfl⟩⟩
    have I1 : Inv X pins σ (upd H s.heap.objs.size (.tup [x, y])) { s with heap := h'', toks := tk } :=
      I.turnedNew (ch := [z, TI, TO, i1, i2]) (fun c o hb q => (sb.2 c (fun q' => hb (by simp [q']))).trans (hk c o (fun q' => hb (by simp [q'])) (fun q' => hb (by simp [q'])) (fun q' => hb (by simp [q'])) (fun q' => hb (by simp [q'])) q)) hf (Nat.le_refl _) new
    refine ⟨.ref s.heap.objs.size, _, I1, rfl, ⟨_, x, y, rfl, I.hok.fresh (Nat.le_refl _), rfl, fun l hl => by rw [I.list_inj hl hqx]; exact hx, fun l hl => by rw [I.list_inj hl hqy]; exact hy⟩, ⟨z'', ?_, ⟨x1, x2, ?_⟩, ?_, ?_⟩, fun c hcm => ?_⟩
    · exact (sb.2 _ D.TIz).trans (hk _ _ D.TIz D.TITO D.TIi1 D.TIi2 hTI)
    · exact (sb.2 _ D.TOz).trans TO'
    · exact st1.1.at fun o q => (sb.2 _ (Ne.symm D.zi1)).trans q
    · exact st2.1.at fun o q => (sb.2 _ (Ne.symm D.zi2)).trans q
    · have hlt : c < s.heap.objs.size := by
        have e' : c = z ∨ c = TI ∨ c = TO ∨ c = i1 ∨ c = i2 := by simpa using hcm
        rcases e' with q | q | q | q | q
        · rw [q]; exact hzl
        · rw [q]; exact Heap.lt_size hTI
        · rw [q]; exact Heap.lt_size hTO
        · rw [q]; obtain ⟨_, e1, _⟩ := h1; exact Heap.lt_size e1
        · rw [q]; obtain ⟨_, e2, _⟩ := h2; exact Heap.lt_size e2
      rw [upd_ne (Nat.ne_of_lt hlt)]
      exact (hf c hcm).1
  done := by
    intro X hP hw hK hc i pins s σ H E I hf st hg
    subst hP hw hK
    obtain ⟨hz, hTI, ⟨x0, y0, hTO⟩, h1, h2⟩ := st
    obtain ⟨xs, ys, hqx, hqy, l1, l2, hend⟩ := hg
    obtain ⟨its, rv, p, _⟩ := I.list hqx
    obtain ⟨its2, rv2, p2, _⟩ := I.list hqy
    have ht : s.heap.IsList a its.toArray := plainIs p
    have ht2 : s.heap.IsList b its2.toArray := plainIs p2
    have n1 : its.toArray.size = xs.length := by rw [List.size_toArray, rv.length]
    have n2 : its2.toArray.size = ys.length := by rw [List.size_toArray, rv2.length]
    exact wpAny_pyNext_zipD2_end D (Draws.list (A := X.A.in1) (I.ok.hd hc) i1 a (off_iterL ht h1) its.toArray) (Draws.list (A := X.A.in1) (I.ok.hd hc) i2 b (off_iterL ht2 h2) its2.toArray) hz hTI hTO ⟨h1, ht⟩ ⟨h2, ht2⟩ (by omega) (by omega) (by omega)
      fun h' tk hk => ⟨rfl, I.turnedL (t' := tk) (ch := [z, TI, TO, i1, i2]) (fun c o hb q =>
      hk c o (fun q' => hb (by simp [q'])) (fun q' => hb (by simp [q'])) (fun q' => hb (by simp [q'])) (fun q' => hb (by simp [q'])) q) hf⟩
  self := fun A i s Q E st h => wpAny_pyIter_zip st.1 h
def iZipL (K : PySem.W.Frag) (ta : TA) : TI := fun σ H R => ta σ H fun vs H1 => ∃ a b xs ys, vs = [.ref a, .ref b] ∧ SqL K H1 a xs ∧ SqL K H1 b ys ∧ R (ItzL K a b) H1
theorem ki_zipL {X : Cx} (K : PySem.W.Frag) (hK : X.K = K) {e e2 : Expr} {ta : TA} {p pos tpos : Pos} {elts : List Expr} {kk : Nat} (hg : Gl X "zip") (hm : X.mg "zip" = none) (ha : PA X [e, e2] ta)
    (hs : starEach [e, e2] X.env = (false, eval e X.env) :: starEach [e2] X.env := by rfl) (hpl : (backTo pos (starEach [e2] X.env)).any (·.1) = false := by rfl) :
    PI X (.Tuple elts kk tpos) (.Call (.Name "zip" p) [e, e2] [] pos) (iZipL K ta) := by
  subst hK
  refine ⟨fun pins s σ H R I h => ?_⟩
  refine Call_ (ld_blt I hg hm PyProof.Rows.boot_zip (PyProof.Rows.callWith_type1 (thn (ha.run pos pins s σ H _ I h) fun us s1 ⟨vs, H1, I1, r1, q1⟩ => ?_) hs hpl))
  obtain ⟨a, b, xs, ys, ex, hqx, hqy, q⟩ := q1
  subst ex
  cases r1 with
  | cons r rr =>
    cases rr with
    | cons r' rr =>
      cases rr
      cases r
      cases r'
      obtain ⟨its, rv, p1, _⟩ := I1.list hqx
      obtain ⟨its2, rv2, p2, _⟩ := I1.list hqy
      have t1 : s1.heap.IsList a its.toArray := plainIs p1
      have t2 : s1.heap.IsList b its2.toArray := plainIs p2
      have la : a < s1.heap.objs.size := by
        obtain ⟨_, e, _⟩ := t1
        exact Heap.lt_size e
      have lb : b < s1.heap.objs.size := by
        obtain ⟨_, e, _⟩ := t2
        exact Heap.lt_size e
      refine zip_begins2 (begins_list a its.toArray) (begins_list b its2.toArray) t1 t2 fun h' hz hTI hTO h1 h2 hsz hk => wpAny_pyIter_zip hz ?_
      have I2 : Inv X pins σ H1 { s1 with heap := h' } := I1.kept (t' := s1.toks) hk
      have sep : ZipSep2 (s1.heap.objs.size + 4) (s1.heap.objs.size + 2) (s1.heap.objs.size + 3) s1.heap.objs.size (s1.heap.objs.size + 1) [s1.heap.objs.size, a] [s1.heap.objs.size + 1, b] := by
        have la : (a : Nat) < s1.heap.objs.size := la
        have lb : (b : Nat) < s1.heap.objs.size := lb
        generalize s1.heap.objs.size = n at *
        have nm : ∀ {c i a : Nat}, c ≠ i → c ≠ a → c ∉ [i, a] := fun h1 h2 z => by
          rcases List.mem_cons.mp z with z | z
          · exact h1 z
          · exact h2 (List.mem_singleton.mp z)
        have l (k : Nat) (x : Nat) (h : x < n) : n + k ≠ x := by omega
        exact ⟨Nat.ne_of_lt (by omega), Nat.ne_of_lt (by omega), Nat.ne_of_lt (by omega), Nat.ne_of_gt (by omega), List.mem_cons_self, nm (Nat.ne_of_gt (by omega)) (l 4 a la), nm (Nat.ne_of_gt (by omega)) (l 3 a la), Nat.ne_of_gt (by omega), List.mem_cons_self, nm (Nat.ne_of_gt (by omega)) (l 4 b lb), nm (Nat.ne_of_gt (by omega)) (l 3 b lb), nm (Nat.ne_of_lt (by omega)) (l 0 b lb), nm (Nat.ne_of_gt (by omega)) (l 1 a la)⟩
      refine ⟨s1.heap.objs.size + 4, [s1.heap.objs.size + 4, s1.heap.objs.size + 2, s1.heap.objs.size + 3, s1.heap.objs.size, s1.heap.objs.size + 1], _, _, H1, rfl, I2, turn_zipL sep, ⟨hz, hTI, ⟨_, _, hTO⟩, ⟨_, h1, rfl, rfl⟩, ⟨_, h2, rfl, rfl⟩⟩, fun c hcm => ?_, q⟩
      have e' : c = s1.heap.objs.size + 4 ∨ c = s1.heap.objs.size + 2 ∨ c = s1.heap.objs.size + 3 ∨ c = s1.heap.objs.size ∨ c = s1.heap.objs.size + 1 := by simpa using hcm
      have hle : s1.heap.objs.size ≤ c := by
        rcases e' with z | z | z | z | z
        · rw [z]; exact Nat.le_add_right _ _
        · rw [z]; exact Nat.le_add_right _ _
        · rw [z]; exact Nat.le_add_right _ _
        · rw [z]; exact Nat.le_refl _
        · rw [z]; exact Nat.le_add_right _ _
      exact I1.fpOk hle (I1.hok.fresh hle)
theorem walk_zipL {K : PySem.W.Frag} {a b : Addr} {xs ys : List V} (l : xs.length = ys.length) : Walk (ItzL K a b) xs.length (fun H => SqL K H a xs ∧ SqL K H b ys) (YPair (fun i => xs[i]?) (fun i => ys[i]?)) := by
  refine ⟨fun i _ hi q => ⟨xs, ys, xs[i], ys[i]'(by omega), q.1, q.2, by simp [hi], by rw [List.getElem?_eq_getElem]⟩, fun _ q => ⟨xs, ys, q.1, q.2, Nat.le_refl _, by omega, .inl rfl⟩, fun i H v H' _ q y => ?_⟩
  obtain ⟨T, x, y, h1, h2, h3, h4, h5⟩ := y
  exact ⟨T, x, y, h1, h2, h3, h4 xs q.1, h5 ys q.2⟩
end U


/-! is_certificate_for, is_relaxation_certificate of right certificates -/
namespace Law
open PySem PySem.Spec PyProof.Rows L2 U LamX


theorem lenC {α β : Type} {F : α → β → Prop} : ∀ {xs : List α} {ys : List β}, Paired F xs ys → xs.length = ys.length
  | _, _, .nil => rfl
  | _, _, .cons _ r => congrArg (· + 1) (lenC r)
section
variable {P : Program} {w : World} {K : PySem.W.Frag} {mg : Str → Option Value} {base : Heap}
end
end Law


/-! is_certificate_for, is_relaxation_certificate of any tree of obstructions: True only if right -/
namespace Law
open PySem PySem.Spec PyProof.Rows L2 U LamX


/-- a tree of depth n, its lists outside W -/
def RawT (ns : List Str) (W : Addr → Prop) (H : Hp) : Nat → V → Prop
  | 0, v => ∃ (a ob l : Addr) (ps : List (List Str)), v = .ref a ∧ H a = some (.tup [.ref ob, .ref l]) ∧ RawO ns H ob ps ∧ H l = some (.lst []) ∧ ¬ W l
  | n + 1, v => ∃ (a ob l : Addr) (ps : List (List Str)) (vs : List V), v = .ref a ∧ H a = some (.tup [.ref ob, .ref l]) ∧ RawO ns H ob ps ∧ H l = some (.lst vs) ∧ ¬ W l ∧ vs.length ≤ 100 ∧ ∀ v ∈ vs, RawT ns W H n v
section
variable {ns : List Str} {W W' : Addr → Prop} {H H' : Hp}
theorem RawT.keep (kt : ∀ a xs, H a = some (.tup xs) → H' a = some (.tup xs)) (ks : ∀ a (xs : List Str), xs ≠ [] → H a = some (.lst (xs.map V.str)) → H' a = some (.lst (xs.map V.str))) (kl : ∀ a xs, ¬ W a → H a = some (.lst xs) → H' a = some (.lst xs)) (w : ∀ a, W' a → W a) : ∀ {n : Nat} {v : V}, RawT ns W H n v → RawT ns W' H' n v
  | 0, v, h => by
    unfold RawT at h ⊢
    obtain ⟨a, ob, l, ps, e, h1, h2, h3, h4⟩ := h
    exact ⟨a, ob, l, ps, e, kt _ _ h1, h2.keep kt ks, kl _ _ h4 h3, fun z => h4 (w _ z)⟩
  | n + 1, v, h => by
    unfold RawT at h ⊢
    obtain ⟨a, ob, l, ps, vs, e, h1, h2, h3, h4, h5, h6⟩ := h
    exact ⟨a, ob, l, ps, vs, e, kt _ _ h1, h2.keep kt ks, kl _ _ h4 h3, fun z => h4 (w _ z), h5, fun v hv => RawT.keep kt ks kl w (h6 v hv)⟩
theorem RawT.same {n : Nat} {v : V} (h : RawT ns W H n v) (s : Same H H') : RawT ns W H' n v := h.keep (fun _ _ => s _ _) (fun _ _ _ => s _ _) (fun _ _ _ => s _ _) fun _ z => z
theorem RawT.up : ∀ {n : Nat} {v : V}, RawT ns W H n v → RawT ns W H (n + 1) v
  | 0, v, h => by
    unfold RawT at h ⊢
    obtain ⟨a, ob, l, ps, e, h1, h2, h3, h4⟩ := h
    exact ⟨a, ob, l, ps, [], e, h1, h2, h3, h4, Nat.zero_le _, fun v hv => nomatch hv⟩
  | n + 1, v, h => by
    unfold RawT at h
    obtain ⟨a, ob, l, ps, vs, e, h1, h2, h3, h4, h5, h6⟩ := h
    rw [RawT]
    exact ⟨a, ob, l, ps, vs, e, h1, h2, h3, h4, h5, fun v hv => RawT.up (h6 v hv)⟩
theorem RawT.le {n m : Nat} {v : V} (h : RawT ns W H n v) (k : n ≤ m) : RawT ns W H m v := by
  induction k with
  | refl => exact h
  | step _ ih => exact ih.up
theorem RawO.at1 {ce a b : Addr} {p q : List Str} (h1 : H ce = some (.tup [.ref a, .ref b])) (h2 : H a = some (.lst (p.map V.str))) (h3 : H b = some (.lst (q.map V.str))) : PAt 1 H (.ref ce) [p, q] := by
  refine .inr ⟨ce, [(.ref a, [p]), (.ref b, [q])], rfl, h1, fun x hx => ?_, rfl⟩
  simp only [List.mem_cons, List.not_mem_nil, or_false] at hx
  rcases hx with rfl | rfl
  · exact .inr ⟨a, p, rfl, h2, rfl⟩
  · exact .inr ⟨b, q, rfl, h3, rfl⟩
end
section
variable {P : Program} {w : World} {K : PySem.W.Frag} {mg : Str → Option Value} {base : Heap}
end
end Law


/-! k68's expected mentions -/
namespace U
open PySem PySem.Spec PyProof.Rows L2
end U
namespace Law
open PySem PySem.Spec PyProof.Rows L2 U


/-- a path of nodes, at most 1000 -/
def PthW (ns : List Str) (q : List Str) : Prop := (∀ x ∈ q, x ∈ ns) ∧ 0 < q.length ∧ q.length ≤ 1000
theorem PthN.w {ns : List Str} {q : List Str} (h : PthN ns q) : PthW ns q := ⟨h.1, h.2.1, Nat.le_trans h.2.2 (by decide)⟩
section
variable {P : Program} {w : World} {K : PySem.W.Frag} {mg : Str → Option Value} {base : Heap}
end
end Law

/-! a list of anything == [] -/
namespace U
open PySem PySem.Spec PyProof.Rows L2
end U


/-! k72: _law_changed, _law_repeated_certificate -/
namespace Law
open PySem PySem.Spec PyProof.Rows L2 U LamX


/-- the place of the draws -/
def AtP (p : Addr) : Addr → Prop := fun a => a = p
theorem RawT.go {ns : List Str} {p : Addr} {H H' : Hp} {n : Nat} {v : V} (h : RawT ns (AtP p) H n v) (hp : PoolAt H p) (g : Go p H H') : RawT ns (AtP p) H' n v := by
  refine h.keep (fun a xs h => g.tup hp h) (fun a xs ne h => ?_) (fun a xs nW h => g.at h nW) fun _ z => z
  refine g.at h fun e => ?_
  obtain ⟨c, ys, pos, big, seed, h2, _⟩ := hp
  rw [e, h2] at h
  cases xs with
  | nil => exact ne rfl
  | cons x r => cases HO.lst.inj (Option.some.inj h)
section
variable {P : Program} {w : World} {K : PySem.W.Frag} {mg : Str → Option Value} {base : Heap}
end
theorem cerRaw {ns : List Str} {es : List (Str × Str)} {f : Str → Int} {pn : List Str} {dir : Int} {x : Str} {p : List Str} (c : CerP ns es f pn dir x p) : RawP ns (2 * ns.length + 20) p := ⟨by
  have := c.hd
  cases p with
  | nil => cases this
  | cons a r => simp, c.ln, c.in_⟩
theorem ObsQ.raw {ns : List Str} {es : List (Str × Str)} {f g : Str → Int} {pn : List Str} {H : Hp} {t : Addr} {ps : List (List Str)} (h : ObsQ ns es f g pn H t ps) : RawO ns H t ps := by
  have pos : ∀ {p : List Str} {z : Str}, p.head? = some z → 1 ≤ p.length := fun {p z} h => by
    cases p with
    | nil => cases h
    | cons a r => simp
  cases h with
  | cyc a b c d e i j k => exact .cyc a b ⟨pos d, j, i⟩
  | node a b c d =>
    obtain ⟨u, v, h1, h2, h3, c1, c2⟩ := b
    exact .node a h1 h2 h3 c (cerRaw c1) (cerRaw c2)
  | path a b c d e i j k l m =>
    obtain ⟨u1, v1, h1, h2, h3, c1, c2⟩ := l
    obtain ⟨u2, v2, h4, h5, h6, c3, c4⟩ := m
    exact .path a b h1 h2 h3 h4 h5 h6 ⟨pos d, j, i⟩ (cerRaw c1) (cerRaw c2) (cerRaw c3) (cerRaw c4)
theorem inC {α β : Type} {F : α → β → Prop} : ∀ {xs : List α} {ys : List β}, Paired F xs ys → ∀ x ∈ xs, ∃ y ∈ ys, F x y
  | _, _, .nil, x, h => nomatch h
  | _, _, .cons a r, x, h => by
    rcases List.mem_cons.mp h with rfl | h
    · exact ⟨_, List.mem_cons_self, a⟩
    · obtain ⟨y, h1, h2⟩ := inC r x h
      exact ⟨y, List.mem_cons_of_mem _ h1, h2⟩
/-- a right tree is a tree -/
theorem CeAt.raw {ns : List Str} {f g : Str → Int} {W : Addr → Prop} {H : Hp} : ∀ {n : Nat} {es : List (Str × Str)} {pn : List Str} {cs : List (List Str)} {v : V}, CeAt ns f g n W H es pn cs v → cs.length ≤ 100 → RawT ns W H n v
  | 0, es, pn, cs, v, h, _ => by
    unfold CeAt at h
    unfold RawT
    obtain ⟨a, ob, l, ps, e, h1, h2, h3, h4⟩ := h
    exact ⟨a, ob, l, ps, e, h1, h2.raw, h3, h4⟩
  | n + 1, es, pn, cs, v, h, c => by
    unfold CeAt at h
    unfold RawT
    obtain ⟨a, ob, l, ps, vs, e, h1, h2, h3, h4, h5⟩ := h
    have ln := lenC h5
    refine ⟨a, ob, l, ps, vs, e, h1, h2.raw, h3, h4, ?_, fun v hv => ?_⟩
    · rw [ln]
      exact Nat.le_trans (List.length_filter_le _ _) c
    · obtain ⟨c1, _, z⟩ := inC h5 v hv
      exact CeAt.raw z (Nat.le_trans (List.length_filter_le _ _) c)
end Law


/-! k71 (k70): trees of obstructions, right or not: what is said of them -/
namespace U
open PySem PySem.Spec PyProof.Rows L2
/-- the data of what has the shape of an obstruction -/
def datO : List (List Str) → PyData
  | [c] => .tuple [.str "cycle", .list (c.map PyData.str)]
  | [[x], p, q] => .tuple [.str "node", .str x, .tuple [.list (p.map PyData.str), .list (q.map PyData.str)]]
  | [p, p1, q1, p2, q2] => .tuple [.str "path", .list (p.map PyData.str), .tuple [.list (p1.map PyData.str), .list (q1.map PyData.str)], .tuple [.list (p2.map PyData.str), .list (q2.map PyData.str)]]
  | _ => .none
/-- a tree: no pair with a list; a pair with something odd; a pair with an obstruction -/
inductive CT where
  | bad | odd | node (pp : List (List Str)) (kids : List CT)
end U
namespace Law
open PySem PySem.Spec PyProof.Rows L2 U LamX
/-- no tuple of two with a list at its end -/
inductive OddT (W : Addr → Prop) (H : Hp) : V → Prop
  | non : OddT W H .non
  | int {i : Int} : OddT W H (.int i)
  | str {s : Str} : OddT W H (.str s)
  | lst {a : Addr} {xs : List V} : H a = some (.lst xs) → ¬ W a → OddT W H (.ref a)
  | tup {a : Addr} {xs : List V} : H a = some (.tup xs) → xs.length ≠ 2 → OddT W H (.ref a)
  | tnon {a : Addr} {x : V} : H a = some (.tup [x, .non]) → OddT W H (.ref a)
  | ttup {a b : Addr} {x : V} {ys : List V} : H a = some (.tup [x, .ref b]) → H b = some (.tup ys) → OddT W H (.ref a)
/-- no obstruction -/
inductive OddO (H : Hp) : V → PyData → Prop
  | non : OddO H .non .none
  | cyc : OddO H (.str "cycle") (.str "cycle")
  | tup {b : Addr} : H b = some (.tup []) → OddO H (.ref b) (.tuple [])
/-- the tree stands at v, its lists outside W -/
inductive TrA (ns : List Str) (W : Addr → Prop) (H : Hp) : CT → V → Prop
  | bad {v : V} : OddT W H v → TrA ns W H .bad v
  | odd {a l : Addr} {v0 : V} {d : PyData} {vs : List V} : H a = some (.tup [v0, .ref l]) → OddO H v0 d → H l = some (.lst vs) → ¬ W l → TrA ns W H .odd (.ref a)
  | node {a ob l : Addr} {pp : List (List Str)} {kids : List CT} {vs : List V} : H a = some (.tup [.ref ob, .ref l]) → RawO ns H ob pp → H l = some (.lst vs) → ¬ W l → vs.length = kids.length → vs.length ≤ 100 → (∀ (i : Nat) (t : CT) (v : V), kids[i]? = some t → vs[i]? = some v → TrA ns W H t v) → TrA ns W H (.node pp kids) (.ref a)
section
variable {ns : List Str} {W W' : Addr → Prop} {H H' : Hp}
theorem TrA.keep (kt : ∀ a xs, H a = some (.tup xs) → H' a = some (.tup xs)) (ks : ∀ a (xs : List Str), xs ≠ [] → H a = some (.lst (xs.map V.str)) → H' a = some (.lst (xs.map V.str))) (kl : ∀ a xs, ¬ W a → H a = some (.lst xs) → H' a = some (.lst xs)) (w : ∀ a, W' a → W a) {T : CT} {v : V} (h : TrA ns W H T v) : TrA ns W' H' T v := by
  induction h with
  | bad h =>
    refine .bad ?_
    cases h with
    | non => exact .non
    | int => exact .int
    | str => exact .str
    | lst a b => exact .lst (kl _ _ b a) fun z => b (w _ z)
    | tup a b => exact .tup (kt _ _ a) b
    | tnon a => exact .tnon (kt _ _ a)
    | ttup a b => exact .ttup (kt _ _ a) (kt _ _ b)
  | @odd _ _ v0 dd _ a b c d =>
    have b' : OddO H' v0 dd := by
      cases b with
      | non => exact .non
      | cyc => exact .cyc
      | tup b => exact .tup (kt _ _ b)
    exact .odd (kt _ _ a) b' (kl _ _ d c) fun z => d (w _ z)
  | node a b c d e i _ ih => exact .node (kt _ _ a) (b.keep kt ks) (kl _ _ d c) (fun z => d (w _ z)) e i ih
theorem TrA.same {T : CT} {v : V} (h : TrA ns W H T v) (s : Same H H') : TrA ns W H' T v := h.keep (fun _ _ => s _ _) (fun _ _ _ => s _ _) (fun _ _ _ => s _ _) fun _ z => z
theorem TrA.ext {T : CT} {v : V} (h : TrA ns W H T v) (x : ExtN H H') : TrA ns W H' T v := h.keep (fun _ _ => ExtN.tu x) (fun _ _ _ => ExtN.li x) (fun _ _ _ => ExtN.li x) fun _ z => z
theorem TrA.go {p : Addr} {T : CT} {v : V} (h : TrA ns (AtP p) H T v) (hp : PoolAt H p) (g : Go p H H') : TrA ns (AtP p) H' T v := by
  refine h.keep (fun a xs h => g.tup hp h) (fun a xs ne h => ?_) (fun a xs nW h => g.at h nW) fun _ z => z
  refine g.at h fun e => ?_
  obtain ⟨c, ys, pos, big, seed, h2, _⟩ := hp
  rw [e, h2] at h
  cases xs with
  | nil => exact ne rfl
  | cons x r => cases HO.lst.inj (Option.some.inj h)
theorem dpA_sJ {K : PySem.W.Frag} : ∀ xs : List Str, DpAll K H (xs.map V.str) (xs.map PyData.str)
  | [] => .nil
  | x :: r => .cons (.str _) (dpA_sJ r)
theorem RawO.dp {K : PySem.W.Frag} {t : Addr} {pp : List (List Str)} (h : RawO ns H t pp) : Dp K H (.ref t) (datO pp) := by
  cases h with
  | cyc a b _ => exact .tup (SqT.of a) (.cons (.str _) (.cons (.lst (SqL.of b) (dpA_sJ _)) .nil))
  | node a b c d _ _ _ => exact .tup (SqT.of a) (.cons (.str _) (.cons (.str _) (.cons (.tup (SqT.of b) (.cons (.lst (SqL.of c) (dpA_sJ _)) (.cons (.lst (SqL.of d) (dpA_sJ _)) .nil))) .nil)))
  | path a b c d e i j k _ _ _ _ _ => exact .tup (SqT.of a) (.cons (.str _) (.cons (.lst (SqL.of b) (dpA_sJ _)) (.cons (.tup (SqT.of c) (.cons (.lst (SqL.of d) (dpA_sJ _)) (.cons (.lst (SqL.of e) (dpA_sJ _)) .nil))) (.cons (.tup (SqT.of i) (.cons (.lst (SqL.of j) (dpA_sJ _)) (.cons (.lst (SqL.of k) (dpA_sJ _)) .nil))) .nil))))
theorem OddO.dat {K : PySem.W.Frag} {v : V} {d : PyData} (h : OddO H v d) : Dp K H v d ∧ d.canLay0 = true ∧ d.depth ≤ 60 ∧ ∀ {ns es f g pn}, ¬ obD ns es f g pn d := by
  have no : ∀ {d : PyData} {ns es f g pn}, (∀ ds, d = .tuple ds → ds = []) → ¬ obD ns es f g pn d := fun h z => by
    cases z with
    | cyc e _ _ => cases h _ e
    | node e _ _ _ => cases h _ e
    | path e _ _ _ _ _ => cases h _ e
  cases h with
  | non => exact ⟨.non, by simp [PyData.canLay0], by simp [PyData.depth], no (fun ds e => by cases e)⟩
  | cyc => exact ⟨.str _, by simp [PyData.canLay0]; decide +kernel, by simp [PyData.depth], no (fun ds e => by cases e)⟩
  | tup h => exact ⟨.tup (SqT.of h) .nil, by simp [PyData.canLay0, PyData.canLayAll0], by simp [PyData.depth, PyData.depthAll], no (fun ds e => by cases e; rfl)⟩
end
end Law


/-! k71 (k70): is_certificate_for, is_relaxation_certificate of any tree: exactly the certificates -/
namespace Law
open PySem PySem.Spec PyProof.Rows L2 U LamX


section
variable {P : Program} {w : World} {K : PySem.W.Frag} {mg : Str → Option Value} {base : Heap}
end
end Law


/-! checked_bound, required_numbers, is_branch, is_refutation -/
namespace Law
open PySem PySem.Spec PyProof.Rows L2 U LamX


def fcQ (ns : List Str) (es : List (Str × Str)) (f : Str → Int) (pn : List Str) (y : Str) (q : List Str × List Str) : Prop := fcD ns es f pn y (datC (some q))
def oI : Option Int → V
  | none => .non
  | some i => .int i
def spNumsB : Sp := fun vs H Q _ => ∃ (st wd : Addr) (x : Str) (lo hi : Int) (ord ws : List Str) (f w : Str → Int), vs = [.ref st, .ref wd, .str x, .int lo, .int hi] ∧ H st = some (.dK (kvF ord f)) ∧ x ∈ ord ∧ H wd = some (.dK (kvF ws w)) ∧ x ∈ ws ∧ hi - lo ≤ 50000 ∧ -(10 ^ 6) ≤ lo ∧ lo ≤ 10 ^ 6 ∧ -(10 ^ 6) ≤ hi ∧ hi ≤ 10 ^ 6 ∧
  ∀ (l : Addr) (H' : Hp), Same H H' → H l = none → H' l = some (.lst ((nmsF f w x lo hi).map V.int)) → Q (.ref l) H'
def spBndC (K : PySem.W.Frag) : Sp := fun vs H Q _ => ∃ (g n e st kd fr ps : Addr) (v : V) (b : Option Bd) (x : Str) (dir : Int) (ns ord pn ks frs : List Str) (es : List (Addr × Str × Str)) (f k : Str → Int), vs = [.ref g, .ref st, v, .str x, .ref kd, .ref fr, .ref ps, .int dir] ∧ (dir = 1 ∨ dir = -1) ∧ GSt H g n e st ns ord es f ∧ Dp K H v (datBd b) ∧ H kd = some (.dK (kvF ks k)) ∧ H fr = some (.lst (frs.map V.str)) ∧ frs.length ≤ 1000 ∧ SqT K H ps (pn.map V.str) ∧ ∀ H' : Hp, Same H H' → Q (oI (bndN ns (es.map (·.2)) f pn (fcQ ns (es.map (·.2)) f pn) ks k frs x dir b)) H'
section
variable {P : Program} {w : World} {K : PySem.W.Frag} {mg : Str → Option Value} {base : Heap}
theorem ok_numsB {f : Addr} {fd : FuncData} (F : Fun K "numbers_between" "numbers_between" s_numbers_between f fd) (B : Bt mg) : FnG P w K mg base CX0 1 f fd ["state", "wanted", "node", "least", "greatest"] spNumsB := by
  refine fnG0 F sc_numbers_between (fun vs H Q E h => ?_) (fun cdv A outer s H vs Q E hr h => ?_)
  · obtain ⟨st, wd, x, lo, hi, ord, ws, f, w, rfl, _⟩ := h
    rfl
  · obtain ⟨st, wd, x, lo, hi, ord, ws, f, w, rfl, hst, xo, hwd, xw, sp, l0, l1, h0, h1, q⟩ := h
    have nd := sc_numbers_between.nd
    have hu := hr.u1
    refine ⟨_, (pss_one (ps_ret (pe_lc (own := [("number", 5)]) rfl nd (pi_range2 rfl B.range (pa_cons (pv 3) (pa_cons (pe_op (kAdd K rfl) (pv 4) pe_int) pa_nil))) (blkOk_by (own := [("number", 5)]) (N := nN_numbers_between) (sc := defScope s_numbers_between) (by decide +kernel)) (fun _ _ _ _ _ => (pg_name (i := 5) nd rfl (by first | exact Or.inl rfl | exact Or.inr rfl))) (fun _ _ _ _ _ => (pts_one (pt_cmpR (kEq K rfl hr.u64) (pe_op uMod (pe_op uSub (pe_dget hu (pv 0) (pv 2) (fun _ _ => rfl)) (pv 5)) pe_int) (pe_dget hu (pv 1) (pv 2) (fun _ _ => rfl)) (nomark _)))) (fun _ _ _ _ _ => (pv 5))))), ?_⟩
    wtm_at "rd"
    refine ⟨_, _, rfl, ⟨by omega, by omega, by omega, by omega⟩, ?_⟩
    intro D fD
    have tk : ∀ i, (((List.range (i + 1)).map fun (j : Nat) => lo + (j : Int)).filter fun v => decide ((f x - v) % 3 = w x)) = (((List.range i).map fun (j : Nat) => lo + (j : Int)).filter fun v => decide ((f x - v) % 3 = w x)) ++ [lo + (i : Int)].filter fun v => decide ((f x - v) % 3 = w x) := fun i => by
      rw [List.range_succ, List.map_append, List.filter_append]
      rfl
    refine lcR (fun i H' => Same H H' ∧ H' D = some (.lst ((((List.range i).map fun (j : Nat) => lo + (j : Int)).filter fun v => decide ((f x - v) % 3 = w x)).map V.int))) ⟨Same.new fD, upd_same⟩ ?_ ?_
    · rintro i H' hi ⟨s, hD⟩
      have len : ((((List.range i).map fun (j : Nat) => lo + (j : Int)).filter fun v => decide ((f x - v) % 3 = w x)).map V.int).length ≤ 50001 := by
        rw [List.length_map]
        refine Nat.le_trans (List.length_filter_le _ _) ?_
        rw [List.length_map, List.length_range]
        omega
      rw [tk, List.map_append]
      wtm_at "rd"
      refine rd_dat (.inl (s _ _ hst)) (kvF_val xo) rfl ?_
      wtm_at "rd"
      refine rd_dat (.inl (s _ _ hwd)) (kvF_val xw) rfl ?_
      wtm_at "rd"
      refine rd_split (fun c => ?_) (fun c => ?_)
      · wtm_at "rd"
        refine rd_acc hD (by omega) ?_
        refine ⟨same_put s fD, ?_⟩
        rw [upd_same, List.filter_cons, decide_eq_true c]
        rfl
      · refine ⟨s, ?_⟩
        rw [List.filter_cons, decide_eq_false c, if_neg Bool.false_ne_true, List.filter_nil, List.map_nil, List.append_nil]
        exact hD
    · rintro H' ⟨s, hD⟩
      exact q D H' s fD hD
structure ZUb (P : Program) (w : World) (K : PySem.W.Frag) (mg : Str → Option Value) (base : Heap) : Prop where
  is_path : Cal P w K mg base CX0 4 "is_path" (spIsPD K)
  slope : Cal P w K mg base CX0 1 "slope" spSlope
  is_frozen_certificate : CalK P w K mg base CX0 6 "is_frozen_certificate" 4 ["pinned"] (spIsFcD K)
  paths_from : Cal P w K mg base CX0 2 "paths_from" spPathsFrom
theorem ok_bndC {f : Addr} {fd : FuncData} (F : Fun K "checked_bound" "checked_bound" s_checked_bound f fd) (B : Bt mg) (C : ZUb P w K mg base) : FnG P w K mg base CX0 7 f fd ["graph", "state", "candidate", "node", "known", "unbounded", "pinned", "direction"] (spBndC K) := by
  refine fnG0 F sc_checked_bound (fun vs H Q E h => ?_) (fun cdv A outer s H vs Q E hr h => ?_)
  · obtain ⟨g, n, e, st, kd, fr, ps, v, b, x, dir, ns, ord, pn, ks, frs, es, f, k, rfl, _⟩ := h
    rfl
  · obtain ⟨g, n, e, st, kd, fr, ps, v, b, x, dir, ns, ord, pn, ks, frs, es, f, k, rfl, hdir, gs, dp, hkd, hfr, f1000, hps, q⟩ := h
    have nd := sc_checked_bound.nd
    have hu := hr.u1
    refine ⟨_, (pss_cons (ps_if (PW.pt (pw_or (pt_not (pt_val (pe_callB (kIsi K rfl) (by rfl) B.isinstance bb_isinstance (pa_cons (pv 2) (pa_cons (pe_ty rfl B.tuple bb_tuple) pa_nil))))) (pw_or1 (pt_cmpR (kNe K rfl hr.u64) (pe_callB (kLen K rfl) (by rfl) B.len bb_len (pa_cons (pv 2) pa_nil)) pe_int (nomark _))))) (pss_one (ps_ret pe_non)) pss_nil)
  (pss_cons (ps_asg (pv 2) (kg_tup (n := 2) K rfl rfl (pgs_cons (pg_name (i := 8) nd rfl (by first | exact Or.inl rfl | exact Or.inr rfl)) (pgs_cons (pg_name (i := 9) nd rfl (by first | exact Or.inl rfl | exact Or.inr rfl)) pgs_nil))))
  (pss_cons (ps_if (PW.pt (pw_or (pt_not (pt_val (pe_c C.is_path hr (by decide) rfl (pa_cons (pv 0) (pa_cons (pv 8) pa_nil))))) (pw_or1 (pt_cmpR (kNe K rfl hr.u64) (pe_ix (kIx K rfl) (pv 8) (pe_un un_neg pe_int) (fun _ _ => rfl)) (pv 3) (nomark _))))) (pss_one (ps_ret pe_non)) pss_nil)
  (pss_cons (ps_set (i := 10) nd rfl (by first | exact Or.inl rfl | exact Or.inr rfl) (pe_callB (kLen K rfl) (by rfl) B.len bb_len (pa_cons (pe_lc (own := [("index", 11)]) rfl nd (pi_range1 rfl B.range (pa_cons (pe_op uSub (pe_callB (kLen K rfl) (by rfl) B.len bb_len (pa_cons (pv 8) pa_nil)) pe_int) pa_nil)) (blkOk_by (own := [("index", 11)]) (N := nN_checked_bound) (sc := defScope s_checked_bound) (by decide +kernel)) (fun _ _ _ _ _ => (pg_name (i := 11) nd rfl (by first | exact Or.inl rfl | exact Or.inr rfl))) (fun _ _ _ _ _ => (pts_one (pt_cmpR (kEq K rfl hr.u64) (pe_c C.slope hr (by decide) rfl (pa_cons (pv 1) (pa_cons (pe_ix (kIx K rfl) (pv 8) (pv 11) (fun _ _ => rfl)) (pa_cons (pe_ix (kIx K rfl) (pv 8) (pe_op (kAdd K rfl) (pv 11) pe_int) (fun _ _ => rfl)) pa_nil)))) (pv 7) (nomark _)))) (fun _ _ _ _ _ => (pv 11))) pa_nil)))
  (pss_cons (ps_if (pt_cmpR uIs (pv 9) pe_non (nomark _)) (pss_one (ps_ret (pe_ifExp (pt_cmp (pc_din hu (pe_ix (kIx K rfl) (pv 8) pe_int (fun _ _ => rfl)) (pv 4))) (pe_op uSub (pe_dget hu (pv 4) (pe_ix (kIx K rfl) (pv 8) pe_int (fun _ _ => rfl)) (fun _ _ => rfl)) (pe_op uMul (pv 7) (pv 10))) pe_non))) pss_nil)
  (pss_cons (ps_if (pt_not (pt_val (pe_cK C.is_frozen_certificate hr (by decide) rfl pass0 (pa_cons (pv 0) (pa_cons (pv 1) (pa_cons (pe_ix (kIx K rfl) (pv 8) pe_int (fun _ _ => rfl)) (pa_cons (pv 9) pa_nil)))) (pk_cons (pv 6) pk_nil)))) (pss_one (ps_ret pe_non)) pss_nil)
  (pss_cons (ps_if (pt_val (pe_callB (kAny K rfl rfl) (by rfl) B.any bb_any (pa_cons (pe_lc (own := [("other", 12)]) rfl nd (ki_list K rfl (pv 5)) (blkOk_by (own := [("other", 12)]) (N := nN_checked_bound) (sc := defScope s_checked_bound) (by decide +kernel)) (fun _ _ _ _ _ => (pg_name (i := 12) nd rfl (by first | exact Or.inl rfl | exact Or.inr rfl))) (fun _ _ _ _ _ => pts_nil) (fun _ _ _ _ _ => (pe_cmp (pc_din hu (pv 12) (pe_c C.paths_from hr (by decide) rfl (pa_cons (pv 0) (pa_cons (pe_ix (kIx K rfl) (pv 8) pe_int (fun _ _ => rfl)) pa_nil))))))) pa_nil))) (pss_one (ps_ret pe_non)) pss_nil)
  (pss_one (ps_ret (pe_op uMul (pe_un un_neg (pv 7)) (pv 10))))))))))), ?_⟩
    wtm_at "rd"
    cases b with
    | none =>
      cases dp
      wtm_at "rd"
      refine rd_isi ty_non rfl ?_
      rw [show isT Ty.non Ty.tup = false from rfl]
      wtm_at "rd"
      exact q H (Same.refl _)
    | some b =>
    have dp : Dp K H v (.tuple [.list (b.p.map PyData.str), datC b.c]) := dp
    cases dp with
    | @tup a us ds hs all =>
    cases all with
    | @cons u1 us1 d1' ds1 d1 all =>
    cases all with
    | @cons u2 us2 d2' ds2 d2 all =>
    cases all
    obtain ⟨pa, rfl, hpa⟩ := dp_list d1
    have l100 := gs.l2
    wtm_at "rd"
    refine rd_isi (ty_seqT hs) rfl ?_
    rw [show isT Ty.tup Ty.tup = true from rfl]
    wtm_at "rd"
    refine rd_lenT hs ?_
    wtm_at "rd"
    refine rd_nno rfl ?_
    wtm_at "rd"
    refine rd_unp hs rfl ?_
    wtm_at "rd"
    refine ⟨g, n, e, _, _, ns, es, rfl, gs.grs, .dat d1, fun bb H1 s1 hb => ?_⟩
    have hb : bb = true ↔ (1 ≤ b.p.length ∧ b.p.length ≤ 1000 ∧ (∀ y ∈ b.p, y ∈ ns) ∧ Wk (es.map (·.2)) b.p) := by
      rw [hb]
      constructor
      · rintro ⟨p', e'⟩
        have e' : pathD ns (es.map (·.2)) (.list (b.p.map PyData.str)) = some p' := e'
        obtain ⟨e1, e2⟩ := pathD_some.mp e'
        injection e1 with e1
        have : b.p = p' := (List.map_inj_right fun a b z => by injection z).mp e1
        rw [this]
        exact e2
      · intro h
        exact ⟨b.p, pathD_some.mpr ⟨rfl, h⟩⟩
    unfold bndN at q
    dsimp only at q
    cases bb with
    | false =>
      have nb : ¬ (1 ≤ b.p.length ∧ b.p.length ≤ 1000 ∧ (∀ y ∈ b.p, y ∈ ns) ∧ Wk (es.map (·.2)) b.p) := fun z => nomatch hb.mpr z
      wtm_at "rd"
      have := q H1 s1
      cases eh : b.p.head? with
      | none =>
        rw [eh] at this
        exact this
      | some y =>
        rw [eh] at this
        dsimp only at this
        rw [if_neg (fun z => nb ⟨by
          cases ep : b.p with
          | nil => rw [ep] at eh; cases eh
          | cons _ _ => exact Nat.succ_pos _, z.1, z.2.1, z.2.2.1⟩)] at this
        exact this
    | true =>
    obtain ⟨p1, p2, p3, p4⟩ := hb.mp rfl
    clear hb d1
    obtain ⟨y, ey, yin⟩ : ∃ y, b.p.head? = some y ∧ y ∈ ns := by
      obtain ⟨y, a, b⟩ := head_ofD p1
      exact ⟨y, a, p3 y b⟩
    obtain ⟨z, ez, zm⟩ := last_ofD p1
    rw [ey] at q
    dsimp only at q
    have a0 : atI (b.p.map V.str) 0 = some (.str y) := by
      refine atI_nat (j := 0) ?_
      rw [List.getElem?_map, ← List.head?_eq_getElem?, ey]
      rfl
    have am : atI (b.p.map V.str) (-1) = some (.str z) := by
      have hl : (b.p.map V.str).length = (b.p.length - 1) + 1 := by rw [List.length_map]; omega
      unfold atI ixN
      rw [if_neg (by decide), hl, if_pos (by omega), Option.bind_some, show ((-1 : Int) + ((b.p.length - 1 + 1 : Nat) : Int)).toNat = b.p.length - 1 from by omega, List.getElem?_map, ← List.getLast?_eq_getElem?, ez]
      rfl
    have hpa1 := Same.seqLD s1 hpa
    wtm_at "rd"
    refine rd_ixL hpa1 am ?_
    wtm_at "rd"
    refine rd_nsplit (fun c1 => ?_) (fun c1 => ?_)
    · wtm_at "rd"
      have := q H1 s1
      rw [if_neg (fun h => c1 (by
        have := h.2.2.2
        rw [ez] at this
        exact Option.some.inj this))] at this
      exact this
    rw [if_pos ⟨p2, p3, p4, by rw [ez, c1]⟩] at q
    have gs1 := gs.same s1
    wtm_at "rd"
    refine rd_lenL hpa1 ?_
    rw [List.length_map]
    wtm_at "rd"
    intro D fD
    have fD0 := new_of_same s1 fD
    have lp : ((b.p.length : Int) - 1).toNat = b.p.length - 1 := by omega
    rw [lp]
    refine lcR (fun i H' => ∃ js : List Int, Same H H' ∧ H' D = some (.lst (js.map V.int)) ∧ js.length = U.stK f dir b.p i) ⟨[], same_add s1 fD, upd_same, rfl⟩ ?_ ?_
    · rintro i H' hi ⟨js, s, hD, jl⟩
      have hi1 : i + 1 < b.p.length := by omega
      have hpL := Same.seqLD s hpa
      have e0 : (0 + (i : Int)) = (i : Int) := Int.zero_add _
      have jb : U.stK f dir b.p i ≤ i := by
        unfold U.stK
        exact Nat.le_trans (List.length_filter_le _ _) (by rw [List.length_range]; exact Nat.le_refl _)
      rw [e0]
      rw [stK_succ hi1]
      have m1 := p3 _ (List.getElem_mem (by omega : i < b.p.length))
      have m2 := p3 _ (List.getElem_mem hi1)
      wtm_at "rd"
      refine rd_ixL hpL (atI_nat (v := .str b.p[i]) (by rw [List.getElem?_map, List.getElem?_eq_getElem (by omega)]; rfl)) ?_
      wtm_at "rd"
      refine rd_ixL hpL (v := .str b.p[i + 1]) (by
        rw [show ((i : Int) + 1) = ((i + 1 : Nat) : Int) from by omega]
        exact atI_nat (by rw [List.getElem?_map, List.getElem?_eq_getElem hi1]; rfl)) ?_
      wtm_at "rd"
      refine ⟨st, b.p[i], b.p[i + 1], ord, f, rfl, .inl (s _ _ gs.st), gs.inO _ m1, gs.inO _ m2, ?_⟩
      wtm_at "rd"
      refine rd_split (fun c2 => ?_) (fun c2 => ?_)
      · rw [if_pos c2]
        wtm_at "rd"
        refine rd_acc hD (by rw [List.length_map]; omega) ?_
        refine ⟨js ++ [(i : Int)], same_put s fD0, ?_, by rw [List.length_append, jl]; rfl⟩
        rw [upd_same, List.map_append]
        rfl
      · rw [if_neg c2]
        exact ⟨js, s, hD, by omega⟩
    rintro H2 ⟨js, s2, hD, jl⟩
    rw [stK_all] at jl
    wtm_at "rd"
    refine rd_lenL (SqL.of hD) ?_
    rw [List.length_map, jl]
    generalize stN f dir b.p = N at *
    clear hD
    have hpa2 := Same.seqLD s2 hpa
    have gs2 := gs.same s2
    cases ec : b.c with
    | none =>
      rw [ec] at d2 q
      cases d2
      dsimp only at q
      wtm_at "rd"
      rw [decide_eq_true rfl]
      wtm_at "rd"
      refine rd_ixL hpa2 a0 ?_
      wtm_at "rd"
      refine rd_din1 (.inl (s2 _ _ hkd)) (k := .inr y) rfl ?_
      have q := q H2 s2
      by_cases yk : y ∈ ks
      · rw [if_pos yk] at q
        rw [kvF_val yk]
        wtm_at "rd"
        try refine rd_bl ?_
        try refine rd_T ?_
        wtm_at "rd"
        refine rd_ixL hpa2 a0 ?_
        wtm_at "rd"
        refine rd_dat (.inl (s2 _ _ hkd)) (kvF_val yk) rfl ?_
        rcases hdir with rfl | rfl
        · wtm_at "rd"
          exact q
        · wtm_at "rd"
          exact q
      · rw [if_neg yk] at q
        rw [kvF_none yk]
        wtm_at "rd"
        try refine rd_bl ?_
        try refine rd_F ?_
        wtm_at "rd"
        exact q
    | some c =>
      rw [ec] at d2 q
      dsimp only at q
      have u2n : u2 ≠ .non := fun z => by
        rw [z] at d2
        unfold datC at d2
        cases d2
      wtm_at "rd"
      rw [decide_eq_false u2n]
      wtm_at "rd"
      refine rd_ixL hpa2 a0 ?_
      wtm_at "rd"
      refine ⟨g, n, e, st, ps, u2, datC (some c), y, ns, ord, pn, es, f, rfl, gs2, l100, yin, Same.seqT s2 hps, Dp.same d2 s2, fun b3 H3 s3 hb3 => ?_⟩
      have s23 := s2.trans s3
      wtm_at "rd"
      cases b3 with
      | false =>
        wtm_at "rd"
        have := q H3 s23
        rw [if_neg (fun z => by
          have := hb3.mpr z.1
          cases this)] at this
        exact this
      | true =>
      have fcy : fcQ ns (es.map (·.2)) f pn y c := hb3.mp rfl
      have hpa3 := Same.seqLD s23 hpa
      wtm_at "rd"
      refine rd_forL (SqL.of (s23 _ _ hfr)) ?_
      intro D3 fD3
      have fD30 := new_of_same s23 fD3
      refine lcL (K := K) (xs := frs.map V.str) (fun i H' => Same H H' ∧ H' D3 = some (.lst (((frs.take i).map fun z => decide (z ∈ keysF (ptF (es.map (·.2)) y))).map V.bl))) ⟨same_add s23 fD3, upd_same⟩ ?_ ?_ ?_
      · rintro i H' hi ⟨s, _⟩
        exact SqL.of (s _ _ hfr)
      · rintro i yy H' hy ⟨s, hD⟩
        obtain ⟨hi, rfl⟩ := map_at hy
        rw [take_snoc hi, List.map_append, List.map_append]
        generalize frs[i] = o at *
        wtm_at "rd"
        refine rd_ixL (Same.seqLD s hpa) a0 ?_
        wtm_at "rd"
        refine ⟨g, n, e, y, ns, es, rfl, (gs.same s).grs, yin, fun d A H4 s4 _ _ pa4 => ?_⟩
        wtm_at "rd"
        refine rd_din1 (.inl pa4.di) (k := .inr o) rfl ?_
        have hD4 := s4 _ _ hD
        have len : (((frs.take i).map fun z => decide (z ∈ keysF (ptF (es.map (·.2)) y))).map V.bl).length < 100000 := by
          rw [List.length_map, List.length_map, List.length_take]
          omega
        by_cases om : o ∈ keysF (ptF (es.map (·.2)) y)
        · rw [kvG_val om]
          wtm_at "rd"
          try refine rd_bl ?_
          refine rd_acc hD4 len ?_
          refine ⟨same_put (s.trans s4) fD30, ?_⟩
          rw [upd_same, List.map_singleton, decide_eq_true om]
          rfl
        · rw [kvG_none om]
          wtm_at "rd"
          try refine rd_bl ?_
          refine rd_acc hD4 len ?_
          refine ⟨same_put (s.trans s4) fD30, ?_⟩
          rw [upd_same, List.map_singleton, decide_eq_false om]
          rfl
      rintro H4 ⟨s4, hD⟩
      rw [List.length_map, List.take_length] at hD
      have km : ∀ z, z ∈ keysF (ptF (es.map (·.2)) y) ↔ Con (es.map (·.2)) y z := fun z => pt_mem gs.ok (by omega) yin
      generalize keysF (ptF (es.map (·.2)) y) = KS at hD km
      wtm_at "rd"
      refine ⟨_, SqL.of hD, ?_⟩
      have ea : ((frs.map fun z => decide (z ∈ KS)).any id) = true ↔ ∃ z ∈ frs, Con (es.map (·.2)) y z := by
        rw [List.any_map, List.any_eq_true]
        constructor
        · rintro ⟨z, h1, h2⟩
          exact ⟨z, h1, (km z).mp (of_decide_eq_true h2)⟩
        · rintro ⟨z, h1, h2⟩
          exact ⟨z, h1, decide_eq_true ((km z).mpr h2)⟩
      have q := q H4 s4
      generalize ((frs.map fun z => decide (z ∈ KS)).any id) = ab at ea ⊢
      cases ab with
      | true =>
        wtm_at "rd"
        rw [if_neg (fun z => z.2 (ea.mp rfl))] at q
        exact q
      | false =>
        rw [if_pos ⟨fcy, fun z => nomatch ea.mpr z⟩] at q
        rcases hdir with rfl | rfl
        · wtm_at "rd"
          exact q
        · wtm_at "rd"
          exact q
/-- what a branch is judged by -/
structure BrSt (K : PySem.W.Frag) (H : Hp) (g n e st wd kd fr ps : Addr) (ns ord ws pn ks frs : List Str) (es : List (Addr × Str × Str)) (f w k : Str → Int) : Prop where
  gs : GSt H g n e st ns ord es f
  wd : H wd = some (.dK (kvF ws w))
  kd : H kd = some (.dK (kvF ks k))
  fr : H fr = some (.lst (frs.map V.str))
  ps : SqT K H ps (pn.map V.str)
  fl : frs.length ≤ 100
  kl : ks.length ≤ 10
  kn : ∀ y ∈ ks, y ∈ ns
  kb : ∀ y ∈ ks, -(1000 * (ks.length : Int)) ≤ k y ∧ k y ≤ 1000 * (ks.length : Int)
theorem BrSt.same {H H' : Hp} {g n e st wd kd fr ps : Addr} {ns ord ws pn ks frs : List Str} {es : List (Addr × Str × Str)} {f w k : Str → Int} (h : BrSt K H g n e st wd kd fr ps ns ord ws pn ks frs es f w k) (s : Same H H') : BrSt K H' g n e st wd kd fr ps ns ord ws pn ks frs es f w k :=
  ⟨h.gs.same s, s _ _ h.wd, s _ _ h.kd, s _ _ h.fr, Same.seqT s h.ps, h.fl, h.kl, h.kn, h.kb⟩
def spReqN (K : PySem.W.Frag) : Sp := fun vs H Q _ => ∃ (g n e st wd cd kd fr ps : Addr) (x : Str) (v1 v2 v3 : V) (lo hi : Option Bd) (ns ord ws pn ks frs : List Str) (es : List (Addr × Str × Str)) (f w k : Str → Int), vs = [.ref g, .ref st, .ref wd, .ref cd, .ref kd, .ref fr, .ref ps] ∧ BrSt K H g n e st wd kd fr ps ns ord ws pn ks frs es f w k ∧ SqT K H cd [.str x, v1, v2, v3] ∧ Dp K H v1 (datBd lo) ∧ Dp K H v2 (datBd hi) ∧ x ∈ ns ∧ x ∈ ws ∧
  (reqN ns (es.map (·.2)) f pn (fcQ ns (es.map (·.2)) f pn) w ks k frs x lo hi = none → ∀ H' : Hp, Same H H' → Q .non H') ∧
  ∀ xs, reqN ns (es.map (·.2)) f pn (fcQ ns (es.map (·.2)) f pn) w ks k frs x lo hi = some xs → ∀ (l : Addr) (H' : Hp), Same H H' → H' l = some (.lst (xs.map V.int)) → Q (.ref l) H'
theorem bd_non {H : Hp} {v : V} {b : Option Bd} (h : Dp K H v (datBd b)) : v = .non ↔ b = none := by
  cases b with
  | none =>
    cases h
    exact ⟨fun _ => rfl, fun _ => rfl⟩
  | some b =>
    refine ⟨fun z => ?_, nofun⟩
    subst z
    unfold datBd at h
    cases h
theorem grs_but {H H' : Hp} {d g n e : Addr} {kvs : List (Key × V)} {ns : List Str} {es : List (Addr × Str × Str)} (h : GrS H g n e ns es) (hd : H d = some (.dK kvs)) (b : But d H H') : GrS H' g n e ns es := by
  have t : ∀ a xs, H a = some (.tup xs) → H' a = some (.tup xs) := fun a xs ha => b _ _ (ne_of ha hd (by intro z; cases z)) ha
  exact ⟨⟨t _ _ h.gr.top, t _ _ h.gr.nodes, t _ _ h.gr.edges, fun x hx => t _ _ (h.gr.pairs x hx)⟩, h.ok, h.l2, h.l3⟩
structure ZUr (P : Program) (w : World) (K : PySem.W.Frag) (mg : Str → Option Value) (base : Heap) : Prop where
  paths_from : Cal P w K mg base CX0 2 "paths_from" spPathsFrom
  numbers_between : Cal P w K mg base CX0 1 "numbers_between" spNumsB
  checked_bound : Cal P w K mg base CX0 7 "checked_bound" (spBndC K)
  UP : ∃ u, mg "UP" = some u ∧ RelV (.int 1) u
  DOWN : ∃ u, mg "DOWN" = some u ∧ RelV (.int (-1)) u
theorem ok_reqN {f : Addr} {fd : FuncData} (F : Fun K "required_numbers" "required_numbers" s_required_numbers f fd) (B : Bt mg) (C : ZUr P w K mg base) : FnG P w K mg base CX0 8 f fd ["graph", "state", "wanted", "candidate", "known", "unbounded", "pinned"] (spReqN K) := by
  refine fnG0 F sc_required_numbers (fun vs H Q E h => ?_) (fun cdv A outer s H vs Q E hr h => ?_)
  · obtain ⟨g, n, e, st, wd, cd, kd, fr, ps, x, v1, v2, v3, lo, hi, ns, ord, ws, pn, ks, frs, es, f, w, k, rfl, _⟩ := h
    rfl
  · obtain ⟨g, n, e, st, wd, cd, kd, fr, ps, x, v1, v2, v3, lo, hi, ns, ord, ws, pn, ks, frs, es, f, w, k, rfl, S, hcd, d1, d2, xin, xw, q1, q2⟩ := h
    have nd := sc_required_numbers.nd
    have hu := hr.u1
    have l100 := S.gs.l2
    have kl := S.kl
    refine ⟨_, (pss_cons (ps_asg (pv 3) (kg_tup (n := 4) K rfl rfl (pgs_cons (pg_name (i := 7) nd rfl (by first | exact Or.inl rfl | exact Or.inr rfl)) (pgs_cons (pg_name (i := 8) nd rfl (by first | exact Or.inl rfl | exact Or.inr rfl)) (pgs_cons (pg_name (i := 9) nd rfl (by first | exact Or.inl rfl | exact Or.inr rfl)) (pgs_cons (pg_name (i := 10) nd rfl (by first | exact Or.inl rfl | exact Or.inr rfl)) pgs_nil))))))
  (C8.pss_cut (ps_if (PW.pt (pw_and (pt_cmpR uIs (pv 8) pe_non (nomark _)) (pw_and1 (pt_cmpR uIs (pv 9) pe_non (nomark _))))) (pss_cons (ps_if (pt_val (pe_callB (kAny K rfl rfl) (by rfl) B.any bb_any (pa_cons (pe_lock (pe_lc (own := [("other", 11)]) rfl nd (pi_keys (pv 4)) (blkOk_by (own := [("other", 11)]) (N := nN_required_numbers) (sc := defScope s_required_numbers) (by decide +kernel)) (fun _ _ _ _ _ => (pg_name (i := 11) nd rfl (by first | exact Or.inl rfl | exact Or.inr rfl))) (fun _ _ _ _ _ => pts_nil) (fun _ _ _ _ _ => (pe_cmp (pc_din hu (pv 11) (pe_c C.paths_from hr (by decide) rfl (pa_cons (pv 0) (pa_cons (pv 7) pa_nil)))))))) pa_nil))) (pss_one (ps_ret pe_non)) pss_nil)
  (pss_one (ps_ret (pe_c C.numbers_between hr (by decide) rfl (pa_cons (pv 1) (pa_cons (pv 2) (pa_cons (pv 7) (pa_cons pe_int (pa_cons pe_int pa_nil))))))))) pss_nil)
  (pss_cons (ps_set (i := 12) nd rfl (by first | exact Or.inl rfl | exact Or.inr rfl) (pe_c C.checked_bound hr (by decide) rfl (pa_cons (pv 0) (pa_cons (pv 1) (pa_cons (pv 8) (pa_cons (pv 7) (pa_cons (pv 4) (pa_cons (pv 5) (pa_cons (pv 6) (pa_cons (pe_gl rfl C.UP) pa_nil))))))))))
  (pss_cons (ps_set (i := 13) nd rfl (by first | exact Or.inl rfl | exact Or.inr rfl) (pe_c C.checked_bound hr (by decide) rfl (pa_cons (pv 0) (pa_cons (pv 1) (pa_cons (pv 9) (pa_cons (pv 7) (pa_cons (pv 4) (pa_cons (pv 5) (pa_cons (pv 6) (pa_cons (pe_gl rfl C.DOWN) pa_nil))))))))))
  (pss_cons (ps_if (PW.pt (pw_or (pt_cmpR uIs (pv 12) pe_non (nomark _)) (pw_or1 (pt_cmpR uIs (pv 13) pe_non (nomark _))))) (pss_one (ps_ret pe_non)) pss_nil)
  (pss_one (ps_ret (pe_c C.numbers_between hr (by decide) rfl (pa_cons (pv 1) (pa_cons (pv 2) (pa_cons (pv 7) (pa_cons (pv 12) (pa_cons (pv 13) pa_nil))))))))))))), ?_⟩
    wtm_at "rd"
    refine rd_unp hcd rfl ?_
    wtm_at "rd"
    have e1 := bd_non d1
    have e2 := bd_non d2
    refine ⟨fun σ' H' => ¬ (lo = none ∧ hi = none) ∧ σ' = [some (.ref g), some (.ref st), some (.ref wd), some (.ref cd), some (.ref kd), some (.ref fr), some (.ref ps), some (.str x), some v1, some v2, some v3, none, none, none] ∧ H = H', ?_, ?_⟩
    · by_cases c1 : lo = none ∧ hi = none
      · obtain ⟨rfl, rfl⟩ := c1
        obtain rfl := e1.mpr rfl
        obtain rfl := e2.mpr rfl
        wtm_at "rd"
        rw [decide_eq_true rfl]
        wtm_at "rd"
        unfold reqN at q1 q2
        dsimp only at q1 q2
        refine rd_lockE S.kd fun od => ?_
        wtm_at "rd"
        refine rd_forK upd_same ?_
        intro D fD
        have nDa := new_ne fD
        have fD0 := new_old fD
        refine lcW walk_keys (fun i H' => But kd H H' ∧ H' kd = some (.frz od (.dK (kvF ks k))) ∧ H' D = some (.lst (((ks.take i).map fun z => decide (z ∈ keysF (ptF (es.map (·.2)) x))).map V.bl))) ⟨But.upd.trans (But.new fD), at_upd (Ne.symm nDa) upd_same, upd_same⟩ ?_ ?_ ?_
        · rintro i H' hi ⟨_, hf, _⟩
          exact hf
        · rintro i yy H' H2 hi ⟨but, hf, hD⟩ ⟨rfl, k1, vv, e1, rfl⟩
          have hin : i < ks.length := by rw [List.length_map] at hi; exact hi
          obtain ⟨rfl, _⟩ := key_at hin e1
          rw [take_snoc hin, List.map_append, List.map_append]
          generalize ks[i] = o at *
          wtm_at "rd"
          refine ⟨g, n, e, x, ns, es, rfl, grs_but S.gs.grs S.kd but, xin, fun d A H4 s4 _ _ pa4 => ?_⟩
          wtm_at "rd"
          refine rd_din1 (.inl pa4.di) (k := .inr o) rfl ?_
          have hD4 := s4 _ _ hD
          have len : (((ks.take i).map fun z => decide (z ∈ keysF (ptF (es.map (·.2)) x))).map V.bl).length < 100000 := by
            rw [List.length_map, List.length_map, List.length_take]
            omega
          have fin : ∀ bb : Bool, bb = decide (o ∈ keysF (ptF (es.map (·.2)) x)) → But kd H (upd H4 D (.lst (((ks.take i).map fun z => decide (z ∈ keysF (ptF (es.map (·.2)) x))).map V.bl ++ [.bl bb]))) ∧ upd H4 D (.lst (((ks.take i).map fun z => decide (z ∈ keysF (ptF (es.map (·.2)) x))).map V.bl ++ [.bl bb])) kd = some (.frz od (.dK (kvF ks k))) ∧ upd H4 D (.lst (((ks.take i).map fun z => decide (z ∈ keysF (ptF (es.map (·.2)) x))).map V.bl ++ [.bl bb])) D = some (.lst (((ks.take i).map fun z => decide (z ∈ keysF (ptF (es.map (·.2)) x))).map V.bl ++ ([o].map fun z => decide (z ∈ keysF (ptF (es.map (·.2)) x))).map V.bl)) := fun bb eb => by
            refine ⟨fun b' o' nb hb' => at_upd (ne_of_none hb' fD0) (s4 _ _ (but b' o' nb hb')), at_upd (Ne.symm nDa) (s4 _ _ hf), ?_⟩
            rw [upd_same, eb]
            rfl
          by_cases om : o ∈ keysF (ptF (es.map (·.2)) x)
          · rw [kvG_val om]
            wtm_at "rd"
            try refine rd_bl ?_
            refine rd_acc hD4 len ?_
            exact fin true (decide_eq_true om).symm
          · rw [kvG_none om]
            wtm_at "rd"
            try refine rd_bl ?_
            refine rd_acc hD4 len ?_
            exact fin false (decide_eq_false om).symm
        rintro H' ⟨but, hf, hD⟩
        rw [List.length_map, List.take_length] at hD
        refine ⟨hf, ?_⟩
        have s1 := lk_same S.kd but
        have hD1 := at_upd (o := .dK (kvF ks k)) nDa hD
        generalize upd H' kd (.dK (kvF ks k)) = H1 at s1 hD1
        clear but hf hD nDa fD0 fD
        have km : ∀ z, z ∈ keysF (ptF (es.map (·.2)) x) ↔ Con (es.map (·.2)) x z := fun z => pt_mem S.gs.ok (by omega) xin
        generalize keysF (ptF (es.map (·.2)) x) = KS at hD1 km
        have ea : ((ks.map fun z => decide (z ∈ KS)).any id) = true ↔ ∃ z ∈ ks, Con (es.map (·.2)) x z := by
          rw [List.any_map, List.any_eq_true]
          constructor
          · rintro ⟨z, h1, h2⟩
            exact ⟨z, h1, (km z).mp (of_decide_eq_true h2)⟩
          · rintro ⟨z, h1, h2⟩
            exact ⟨z, h1, decide_eq_true ((km z).mpr h2)⟩
        wtm_at "rd"
        refine ⟨_, SqL.of hD1, ?_⟩
        generalize ((ks.map fun z => decide (z ∈ KS)).any id) = ab at ea ⊢
        cases ab with
        | true =>
          wtm_at "rd"
          exact q1 (if_pos (ea.mp rfl)) H1 s1
        | false =>
          have nc : ¬ ∃ z ∈ ks, Con (es.map (·.2)) x z := fun z => nomatch ea.mpr z
          wtm_at "rd"
          refine ⟨st, wd, x, 0, 2, ord, ws, f, w, rfl, s1 _ _ S.gs.st, S.gs.inO _ xin, s1 _ _ S.wd, xw, by decide, by decide, by decide, by decide, by decide, fun l H2 s2 _ hl => ?_⟩
          exact q2 _ (if_neg nc) l H2 (s1.trans s2) hl
      · wtm_at "rd"
        refine rd_split (fun c2 => ?_) (fun c2 => ⟨c1, rfl, rfl⟩)
        wtm_at "rd"
        refine rd_split (fun c3 => ?_) (fun c3 => ⟨c1, rfl, rfl⟩)
        exact absurd ⟨e1.mp c2, e2.mp c3⟩ c1
    rintro σ' H' ⟨c1, rfl, rfl⟩
    have ec : reqN ns (es.map (·.2)) f pn (fcQ ns (es.map (·.2)) f pn) w ks k frs x lo hi = match bndN ns (es.map (·.2)) f pn (fcQ ns (es.map (·.2)) f pn) ks k frs x 1 lo, bndN ns (es.map (·.2)) f pn (fcQ ns (es.map (·.2)) f pn) ks k frs x (-1) hi with
        | some a, some b => some (nmsF f w x a b)
        | _, _ => none := by
      unfold reqN
      split
      · exact absurd ⟨rfl, rfl⟩ c1
      · rfl
    rw [ec] at q1 q2
    have kb1 := fun {i : Int} => bnd_bd (ns := ns) (es := es.map (·.2)) (f := f) (pn := pn) (fc := fcQ ns (es.map (·.2)) f pn) (ks := ks) (k := k) (fr := frs) (x := x) (dir := 1) (i := i) (b := lo) S.kb (.inl rfl)
    have kb2 := fun {i : Int} => bnd_bd (ns := ns) (es := es.map (·.2)) (f := f) (pn := pn) (fc := fcQ ns (es.map (·.2)) f pn) (ks := ks) (k := k) (fr := frs) (x := x) (dir := -1) (i := i) (b := hi) S.kb (.inr rfl)
    have fl := S.fl
    wtm_at "rd"
    refine ⟨g, n, e, st, kd, fr, ps, v1, lo, x, 1, ns, ord, pn, ks, frs, es, f, k, rfl, .inl rfl, S.gs, d1, S.kd, S.fr, by omega, S.ps, fun H1 s1 => ?_⟩
    have S1 := S.same s1
    wtm_at "rd"
    refine ⟨g, n, e, st, kd, fr, ps, v2, hi, x, -1, ns, ord, pn, ks, frs, es, f, k, rfl, .inr rfl, S1.gs, Dp.same d2 s1, S1.kd, S1.fr, by omega, S1.ps, fun H2 s2 => ?_⟩
    have S2 := S1.same s2
    have s02 := s1.trans s2
    generalize bndN ns (es.map (·.2)) f pn (fcQ ns (es.map (·.2)) f pn) ks k frs x 1 lo = r1 at *
    generalize bndN ns (es.map (·.2)) f pn (fcQ ns (es.map (·.2)) f pn) ks k frs x (-1) hi = r2 at *
    wtm_at "rd"
    cases r1 with
    | none =>
      rw [show oI none = V.non from rfl, decide_eq_true rfl]
      wtm_at "rd"
      exact q1 rfl H2 s02
    | some i1 =>
      rw [show oI (some i1) = V.int i1 from rfl, decide_eq_false (fun z => nomatch z)]
      wtm_at "rd"
      cases r2 with
      | none =>
        rw [show oI none = V.non from rfl, decide_eq_true rfl]
        wtm_at "rd"
        exact q1 rfl H2 s02
      | some i2 =>
        rw [show oI (some i2) = V.int i2 from rfl, decide_eq_false (fun z => nomatch z)]
        have b1 := kb1 rfl
        have b2 := kb2 rfl
        wtm_at "rd"
        refine ⟨st, wd, x, i1, i2, ord, ws, f, w, rfl, S2.gs.st, S2.gs.inO _ xin, S2.wd, xw, by omega, by omega, by omega, by omega, by omega, fun l H3 s3 _ hl => ?_⟩
        exact q2 _ rfl l H3 (s02.trans s3) hl
def spIsBr (K : PySem.W.Frag) (m : Nat) : Sp := fun vs H Q _ => ∃ (g n e st wd kd fr ps : Addr) (v : V) (T : BrT) (ns ord ws pn ks frs : List Str) (es : List (Addr × Str × Str)) (f w k : Str → Int), vs = [.ref g, .ref st, .ref wd, v, .ref kd, .ref fr, .ref ps] ∧ BrSt K H g n e st wd kd fr ps ns ord ws pn ks frs es f w k ∧ ks.length + m ≤ 10 ∧ frs.length + m ≤ 90 ∧ Dp K H v (datT T) ∧ T.ok ∧ T.dp ≤ m ∧
  ∀ (b : Bool) (H' : Hp), Same H H' → (b = true ↔ brP ns (es.map (·.2)) f pn (fcQ ns (es.map (·.2)) f pn) ws w ks k frs T) → Q (.bl b) H'
structure ZUi (P : Program) (w : World) (K : PySem.W.Frag) (mg : Str → Option Value) (base : Heap) : Prop where
  has_node : Cal P w K mg base CX0 1 "has_node" (spHasV K)
  required_numbers : Cal P w K mg base CX0 8 "required_numbers" (spReqN K)
theorem ok_isBr {f : Addr} {fd : FuncData} (F : Fun K "is_branch" "is_branch" s_is_branch f fd) (B : Bt mg) (C : ZUi P w K mg base) (S : SelfR K mg "is_branch" f fd ["graph", "state", "wanted", "candidate", "known", "unbounded", "pinned"]) : ∀ m : Nat, FnG P w K mg base CX0 (m + 9) f fd ["graph", "state", "wanted", "candidate", "known", "unbounded", "pinned"] (spIsBr K m) := by
  intro m
  induction m using Nat.strongRecOn with
  | ind m ih =>
  have cal : Cal P w K mg base CX0 (m + 8) "is_branch" (fun vs H Q E => ∃ j, j < m ∧ spIsBr K j vs H Q E) := ⟨f, fd, _, ⟨fun vs H Q E h => by
    obtain ⟨j, hj, h⟩ := h
    exact (ih j hj).len vs H Q E h, fun A outer s H args us vs Q E hr he hb hv h => by
    obtain ⟨j, hj, h⟩ := h
    exact (ih j hj).go A outer s H args us vs Q E (hr.mono (by omega)) he hb hv h⟩, S.mg, S.kp, S.bd⟩
  refine fnG0 F sc_is_branch (fun vs H Q E h => ?_) (fun cdv A outer s H vs Q E hr h => ?_)
  · obtain ⟨g, n, e, st, wd, kd, fr, ps, v, T, ns, ord, ws, pn, ks, frs, es, f, w, k, rfl, _⟩ := h
    rfl
  · obtain ⟨g, n, e, st, wd, kd, fr, ps, v, T, ns, ord, ws, pn, ks, frs, es, f, w, k, rfl, S, km, fm, dp, tok, tdp, q⟩ := h
    have nd := sc_is_branch.nd
    have hu := hr.u1
    refine ⟨_, (pss_cons (ps_if (PW.pt (pw_or (pt_not (pt_val (pe_callB (kIsi K rfl) (by rfl) B.isinstance bb_isinstance (pa_cons (pv 3) (pa_cons (pe_ty rfl B.tuple bb_tuple) pa_nil))))) (pw_or1 (pt_cmpR (kNe K rfl hr.u64) (pe_callB (kLen K rfl) (by rfl) B.len bb_len (pa_cons (pv 3) pa_nil)) pe_int (nomark _))))) (pss_one (ps_ret pe_bl)) pss_nil)
  (pss_cons (ps_asg (pv 3) (kg_tup (n := 4) K rfl rfl (pgs_cons (pg_name (i := 7) nd rfl (by first | exact Or.inl rfl | exact Or.inr rfl)) (pgs_cons (pg_name (i := 8) nd rfl (by first | exact Or.inl rfl | exact Or.inr rfl)) (pgs_cons (pg_name (i := 9) nd rfl (by first | exact Or.inl rfl | exact Or.inr rfl)) (pgs_cons (pg_name (i := 10) nd rfl (by first | exact Or.inl rfl | exact Or.inr rfl)) pgs_nil))))))
  (pss_cons (ps_if (PW.pt (pw_or (pt_not (pt_val (pe_c C.has_node hr (by omega) rfl (pa_cons (pv 0) (pa_cons (pv 7) pa_nil))))) (pw_or (pt_cmp (pc_dnotin hu (pv 7) (pv 2))) (pw_or (pt_cmp (pc_din hu (pv 7) (pv 4))) (pw_or1 (pt_not (pt_val (pe_callB (kIsi K rfl) (by rfl) B.isinstance bb_isinstance (pa_cons (pv 10) (pa_cons (pe_ty rfl B.list bb_list) pa_nil)))))))))) (pss_one (ps_ret pe_bl)) pss_nil)
  (pss_cons (ps_set (i := 11) nd rfl (by first | exact Or.inl rfl | exact Or.inr rfl) (pe_c C.required_numbers hr (by omega) rfl (pa_cons (pv 0) (pa_cons (pv 1) (pa_cons (pv 2) (pa_cons (pv 3) (pa_cons (pv 4) (pa_cons (pv 5) (pa_cons (pv 6) pa_nil)))))))))
  (pss_cons (ps_if (PW.pt (pw_or (pt_cmpR uIs (pv 11) pe_non (nomark _)) (pw_or1 (pt_cmpR (kNe K rfl hr.u64) (pe_callB (kLen K rfl) (by rfl) B.len bb_len (pa_cons (pv 11) pa_nil)) (pe_callB (kLen K rfl) (by rfl) B.len bb_len (pa_cons (pv 10) pa_nil)) (nomark _))))) (pss_one (ps_ret pe_bl)) pss_nil)
  (C8.pss_cut (ps_set (i := 12) nd rfl (by first | exact Or.inl rfl | exact Or.inr rfl) (pe_ifExp (pt_cmpR uIs (pv 8) pe_non (nomark _)) (pe_op (kAdd K rfl) (pv 5) (pe_lst (pa_cons (pv 7) pa_nil))) (pv 5)))
  (pss_cons (ps_for PassesOwn.never rfl (ki_zipL K rfl (by rfl) B.zip (pa_cons (pv 11) (pa_cons (pv 10) pa_nil))) (kg_tup (n := 2) K rfl rfl (pgs_cons (pg_name (i := 13) nd rfl (by first | exact Or.inl rfl | exact Or.inr rfl)) (pgs_cons (pg_name (i := 14) nd rfl (by first | exact Or.inl rfl | exact Or.inr rfl)) pgs_nil))) (pss_cons (ps_set (i := 15) nd rfl (by first | exact Or.inl rfl | exact Or.inr rfl) (pe_callTy cDict (by rfl) B.dict bb_dict (pa_cons (pv 4) pa_nil)))
  (pss_cons (ps_dput hu (pv 15) (pv 7) (pv 13) rfl)
  (pss_one (ps_if (pt_not (pt_val (pe_c cal hr (by omega) rfl (pa_cons (pv 0) (pa_cons (pv 1) (pa_cons (pv 2) (pa_cons (pv 14) (pa_cons (pv 15) (pa_cons (pv 12) (pa_cons (pv 6) pa_nil)))))))))) (pss_one (ps_ret pe_bl)) pss_nil)))))
  (pss_one (ps_ret pe_bl))))))))), ?_⟩
    wtm_at "rd"
    cases T with
    | odd d =>
      have bad : ∀ H', Same H H' → Q (.bl false) H' := fun H' s => q false H' s ⟨nofun, fun z => absurd z brP_odd⟩
      have ob : OddB d := tok
      have dp : Dp K H v d := dp
      have alt : (∃ t, TyIs K H v t ∧ isT t .tup = false) ∨ ∃ a us ds, v = .ref a ∧ d = .tuple ds ∧ SqT K H a us ∧ DpAll K H us ds ∧ TyIs K H v .tup := by
        rcases dp_ty dp with ⟨s, rfl, rfl⟩ | ⟨a, us, ds, rfl, rfl, h1, h2, h3⟩ | ⟨a, us, ds, rfl, rfl, h1, h2, h3⟩ | ⟨t, h1, h2, h3, _⟩
        · exact .inl ⟨_, ty_str, rfl⟩
        · exact .inl ⟨_, h3, rfl⟩
        · exact .inr ⟨a, us, ds, rfl, rfl, h1, h2, h3⟩
        · exact .inl ⟨t, h1, h3⟩
      rcases alt with ⟨t, ht, hf⟩ | ⟨a, us, ds, rfl, rfl, hs, all, ht⟩
      · refine rd_isi ht rfl ?_
        rw [hf]
        wtm_at "rd"
        exact bad H (Same.refl _)
      refine rd_isi ht rfl ?_
      rw [show isT Ty.tup Ty.tup = true from rfl]
      wtm_at "rd"
      refine rd_lenT hs ?_
      wtm_at "rd"
      have ll : us.length = ds.length := dpaLen all
      refine rd_nsplit (fun c1 => ?_) (fun c1 => ?_)
      · wtm_at "rd"
        exact bad H (Same.refl _)
      rcases ob with o | ⟨ds2, e2, o⟩ | ⟨d1, d2, d3, d4, e2, o⟩
      · exact absurd rfl (o ds)
      · cases e2
        have c1 : (us.length : Int) = 4 := c1
        omega
      · cases e2
        cases all with
        | @cons u1 us1 _ _ a1 all =>
        cases all with
        | @cons u2 us2 _ _ a2 all =>
        cases all with
        | @cons u3 us3 _ _ a3 all =>
        cases all with
        | @cons u4 us4 _ _ a4 all =>
        cases all
        wtm_at "rd"
        refine rd_unp hs rfl ?_
        wtm_at "rd"
        have t1 : ∃ t, TyIs K H u1 t ∧ isT t .str = false := by
          rcases dp_ty a1 with ⟨s, rfl, rfl⟩ | ⟨a, us, ds, rfl, rfl, h1, h2, h3⟩ | ⟨a, us, ds, rfl, rfl, h1, h2, h3⟩ | ⟨t, h1, h2, h3, h4, _⟩
          · exact absurd rfl (o s)
          · exact ⟨_, h3, rfl⟩
          · exact ⟨_, h3, rfl⟩
          · exact ⟨t, h1, h4⟩
        obtain ⟨t, ht, hf⟩ := t1
        refine ⟨g, n, e, u1, t, ns, es, rfl, S.gs.gr, .inl ⟨ht, hf, ?_⟩⟩
        wtm_at "rd"
        exact bad H (Same.refl _)
    | node x lo hi bs =>
      have dp : Dp K H v (.tuple [.str x, datBd lo, datBd hi, .list (datTs bs)]) := by
        simp only [datT] at dp
        exact dp
      cases dp with
      | @tup a us ds hs all =>
      cases all with
      | @cons u1 us1 _ _ a1 all =>
      cases all with
      | @cons u2 us2 _ _ a2 all =>
      cases all with
      | @cons u3 us3 _ _ a3 all =>
      cases all with
      | @cons u4 us4 _ _ a4 all =>
      cases all
      cases a1
      cases a4 with
      | @lst bl bus bds hbl ball =>
      have bl_len := dpaLen ball
      rw [datTs_len] at bl_len
      wtm_at "rd"
      refine rd_isi (ty_seqT hs) rfl ?_
      rw [show isT Ty.tup Ty.tup = true from rfl]
      wtm_at "rd"
      refine rd_lenT hs ?_
      wtm_at "rd"
      refine rd_nno rfl ?_
      wtm_at "rd"
      refine rd_unp hs rfl ?_
      wtm_at "rd"
      refine ⟨g, n, e, .str x, .str, ns, es, rfl, S.gs.gr, .inr ⟨x, rfl, ?_⟩⟩
      have no : ∀ H', Same H H' → ¬ brP ns (es.map (·.2)) f pn (fcQ ns (es.map (·.2)) f pn) ws w ks k frs (.node x lo hi bs) → Q (.bl false) H' := fun H' s z => q false H' s ⟨nofun, fun y => absurd y z⟩
      wtm_at "rd"
      refine rd_nsplit (fun c1 => ?_) (fun c1 => ?_)
      · wtm_at "rd"
        exact no H (Same.refl _) fun z => c1 (brP_node.mp z).1
      wtm_at "rd"
      refine rd_din1 (.inl S.wd) (k := .inr x) rfl ?_
      by_cases xw : x ∈ ws
      case neg =>
        rw [kvF_none xw]
        wtm_at "rd"
        try refine rd_bl ?_
        try refine rd_T ?_
        wtm_at "rd"
        exact no H (Same.refl _) fun z => xw (brP_node.mp z).2.1
      rw [kvF_val xw]
      wtm_at "rd"
      try refine rd_bl ?_
      try refine rd_F ?_
      wtm_at "rd"
      refine rd_din1 (.inl S.kd) (k := .inr x) rfl ?_
      by_cases xk : x ∈ ks
      case pos =>
        rw [kvF_val xk]
        wtm_at "rd"
        try refine rd_bl ?_
        try refine rd_T ?_
        wtm_at "rd"
        exact no H (Same.refl _) fun z => (brP_node.mp z).2.2.1 xk
      rw [kvF_none xk]
      wtm_at "rd"
      try refine rd_bl ?_
      try refine rd_F ?_
      wtm_at "rd"
      refine rd_isi (ty_seqLD hbl) rfl ?_
      rw [show isT Ty.lst Ty.lst = true from rfl]
      wtm_at "rd"
      refine ⟨g, n, e, st, wd, a, kd, fr, ps, x, u2, u3, .ref bl, lo, hi, ns, ord, ws, pn, ks, frs, es, f, w, k, rfl, S, hs, a2, a3, c1, xw, fun hn H1 s1 => ?_, fun xs hx nl H1 s1 hnl => ?_⟩
      · wtm_at "rd"
        exact no H1 s1 fun z => by
          obtain ⟨_, _, _, vs, e1, _⟩ := brP_node.mp z
          rw [hn] at e1
          cases e1
      obtain ⟨xb, xl⟩ := req_bd S.kb S.kl hx
      wtm_at "rd"
      rw [show decide (V.ref nl = V.non) = false from decide_eq_false (fun z => nomatch z)]
      wtm_at "rd"
      refine rd_lenL (SqL.of hnl) ?_
      rw [List.length_map]
      wtm_at "rd"
      refine rd_lenL (Same.seqLD s1 hbl) ?_
      wtm_at "rd"
      refine rd_nsplit (fun c2 => ?_) (fun c2 => ?_)
      · wtm_at "rd"
        refine no H1 s1 fun z => ?_
        obtain ⟨_, _, _, vs, e1, e2, _⟩ := brP_node.mp z
        rw [hx] at e1
        cases e1
        have c2 : ¬ (xs.length : Int) = (bus.length : Int) := c2
        omega
      have lx : xs.length = bs.length := by
        have c2 : (xs.length : Int) = (bus.length : Int) := c2
        omega
      have S1 := S.same s1
      have e2 := bd_non a2
      wtm_at "rd"
      refine ⟨fun σ' H' => ∃ iu : Addr, σ' = [some (.ref g), some (.ref st), some (.ref wd), some (.ref a), some (.ref kd), some (.ref fr), some (.ref ps), some (.str x), some u2, some u3, some (.ref bl), some (.ref nl), some (.ref iu), none, none, none] ∧ Same H H' ∧ H' iu = some (.lst ((if lo.isNone then frs ++ [x] else frs).map V.str)) ∧ H' nl = some (.lst (xs.map V.int)), ?_, ?_⟩
      · wtm_at "rd"
        refine rd_split (fun c3 => ?_) (fun c3 => ?_)
        · obtain rfl := e2.mp c3
          wtm_at "rd"
          intro q1 fq1
          have kq := Same.new (o := .lst [.str x]) fq1
          have hq := @upd_same H1 q1 (.lst [.str x])
          have hfr := kq _ _ S1.fr
          have hnl := kq _ _ hnl
          generalize upd H1 q1 (.lst [.str x]) = H2 at *
          wtm_at "rd"
          refine rd_catL hfr hq (by rw [List.length_map]; have := S.fl; show _ + 1 ≤ 100000; omega) ?_
          intro q2 fq2
          have kq2 := Same.new (o := .lst (frs.map V.str ++ [.str x])) fq2
          wtm_at "rd"
          refine ⟨q2, rfl, (s1.trans kq).trans kq2, ?_, kq2 _ _ hnl⟩
          rw [upd_same]
          simp only [Option.isNone_none, if_true, List.map_append]
          rfl
        · wtm_at "rd"
          refine ⟨fr, rfl, s1, ?_, hnl⟩
          cases lo with
          | none => exact absurd (e2.mpr rfl) c3
          | some b => exact S1.fr
      clear s1 S1 hnl
      rintro σ' H2 ⟨iu, rfl, s2, hiu, hnl⟩
      have S2 := S.same s2
      have hbl2 := Same.seqLD s2 hbl
      have ball2 := ball
      have fl2 : (if lo.isNone then frs ++ [x] else frs).length ≤ frs.length + 1 := by
        split
        · rw [List.length_append]
          exact Nat.le_refl _
        · omega
      have brn : brP ns (es.map (·.2)) f pn (fcQ ns (es.map (·.2)) f pn) ws w ks k frs (.node x lo hi bs) ↔ ∀ j (h1 : j < xs.length) (h2 : j < bs.length), brP ns (es.map (·.2)) f pn (fcQ ns (es.map (·.2)) f pn) ws w (ks ++ [x]) (updf k x xs[j]) (if lo.isNone then frs ++ [x] else frs) bs[j] := by
        rw [brP_node]
        constructor
        · rintro ⟨_, _, _, vs, e1, e3, z⟩
          rw [hx] at e1
          cases e1
          exact (brPs_at lx).mp z
        · intro z
          exact ⟨c1, xw, xk, xs, hx, lx, (brPs_at lx).mpr z⟩
      rw [brn] at q
      clear brn no
      generalize (if lo.isNone then frs ++ [x] else frs) = fr2 at *
      have m1 : 1 ≤ m := by
        simp only [BrT.dp] at tdp
        omega
      have kl := S.kl
      wtm_at "rd"
      unfold iZipL
      wtm_at "rd"
      refine ⟨nl, bl, _, _, rfl, SqL.of hnl, hbl2, ?_⟩
      refine turnsW (walk_zipL (K := K) (a := nl) (b := bl) (xs := xs.map V.int) (ys := bus) (by rw [List.length_map]; omega)) (fun i σ H' => ∃ u13 u14 u15 : Option V, σ = [some (.ref g), some (.ref st), some (.ref wd), some (.ref a), some (.ref kd), some (.ref fr), some (.ref ps), some (.str x), some u2, some u3, some (.ref bl), some (.ref nl), some (.ref iu), u13, u14, u15] ∧ Same H2 H' ∧ ∀ j (h1 : j < xs.length) (h2 : j < bs.length), j < i → brP ns (es.map (·.2)) f pn (fcQ ns (es.map (·.2)) f pn) ws w (ks ++ [x]) (updf k x xs[j]) fr2 bs[j]) ⟨_, _, _, rfl, (fun _ _ h => h), fun j h1 h2 z => absurd z (Nat.not_lt_zero _)⟩ ?_ ?_ ?_
      · rintro i σ H' hi ⟨u13, u14, u15, rfl, sE, _⟩
        exact ⟨SqL.of (sE _ _ hnl), Same.seqLD sE hbl2⟩
      · rintro i y σ H3 H4 hi ⟨u13, u14, u15, rfl, sE, nn⟩ ⟨T, x1, y1, rfl, fT, rfl, e1, e3⟩
        obtain ⟨hin, rfl⟩ := map_at e1
        have hib : i < bs.length := by omega
        have hin2 : i < bus.length := by omega
        have hy : y1 = bus[i] := by
          have e3 : bus[i]? = some y1 := e3
          rw [List.getElem?_eq_getElem hin2] at e3
          exact (Option.some.inj e3).symm
        subst hy
        have kT := Same.new (o := .tup [.int xs[i], bus[i]]) fT
        have hT := @upd_same H3 T (.tup [.int xs[i], bus[i]])
        have sE := sE.trans kT
        generalize upd H3 T (.tup [.int xs[i], bus[i]]) = H4 at *
        refine rd_unp (SqT.of hT) rfl ?_
        have db : Dp K H bus[i] (datT bs[i]) := by
          have := dpaGet ball i hin2 (by rw [datTs_len]; exact hib)
          rw [datTs_at hib] at this
          exact this
        have tk := oks_at (by simp only [BrT.ok] at tok; exact tok) _ (List.getElem_mem hib)
        have td := dps_at _ (List.getElem_mem hib)
        simp only [BrT.dp] at tdp
        have xb := xb _ (List.getElem_mem hin)
        have all2 : brP ns (es.map (·.2)) f pn (fcQ ns (es.map (·.2)) f pn) ws w (ks ++ [x]) (updf k x xs[i]) fr2 bs[i] → ∀ j (h1 : j < xs.length) (h2 : j < bs.length), j < i + 1 → brP ns (es.map (·.2)) f pn (fcQ ns (es.map (·.2)) f pn) ws w (ks ++ [x]) (updf k x xs[j]) fr2 bs[j] := fun z j h1 h2 hj => by
          by_cases ej : j = i
          · subst ej
            exact z
          · exact nn j h1 h2 (by omega)
        have one : (∀ j (h1 : j < xs.length) (h2 : j < bs.length), brP ns (es.map (·.2)) f pn (fcQ ns (es.map (·.2)) f pn) ws w (ks ++ [x]) (updf k x xs[j]) fr2 bs[j]) → brP ns (es.map (·.2)) f pn (fcQ ns (es.map (·.2)) f pn) ws w (ks ++ [x]) (updf k x xs[i]) fr2 bs[i] := fun z => z i hin hib
        generalize xs[i] = vi at *
        generalize bs[i] = bi at *
        generalize bus[i] = bv at *
        have S4 := S2.same sE
        wtm_at "rd"
        refine ⟨_, .inl S4.kd, fun ik fik => ?_⟩
        have ki := Same.new (o := .dK (kvF ks k)) fik
        have hik := @upd_same H4 ik (.dK (kvF ks k))
        have sI := sE.trans ki
        have fik0 := new_of_same sE fik
        generalize upd H4 ik (.dK (kvF ks k)) = H5 at *
        wtm_at "rd"
        refine rd_dset hik (k := .inr x) rfl (by rw [List.length_map]; omega) ?_
        rw [kvF_new xk]
        have sJ := same_put (o := .dK (kvF (ks ++ [x]) (updf k x vi))) sI fik0
        have hik := @upd_same H5 ik (.dK (kvF (ks ++ [x]) (updf k x vi)))
        generalize upd H5 ik (.dK (kvF (ks ++ [x]) (updf k x vi))) = H6 at *
        have S6 := S2.same sJ
        have s06 := s2.trans sJ
        wtm_at "rd"
        refine ⟨m - 1, by omega, g, n, e, st, wd, ik, iu, ps, bv, bi, ns, ord, ws, pn, ks ++ [x], fr2, es, f, w, updf k x vi, rfl, ⟨S6.gs, S6.wd, hik, sJ _ _ hiu, S6.ps, by omega, by rw [List.length_append]; show _ + 1 ≤ 10; omega, fun y hy => ?_, fun y hy => ?_⟩, by rw [List.length_append]; show _ + 1 + _ ≤ 10; omega, by omega, Dp.same db s06, tk, by omega, fun b3 H7 s7 hb3 => ?_⟩
        · rcases List.mem_append.mp hy with h | h
          · exact S.kn y h
          · rw [List.mem_singleton.mp h]
            exact c1
        · rw [List.length_append]
          show -(1000 * (((ks.length + 1 : Nat)) : Int)) ≤ updf k x vi y ∧ updf k x vi y ≤ 1000 * (((ks.length + 1 : Nat)) : Int)
          unfold updf
          split
          · omega
          · rename_i ny
            have := S.kb y ((List.mem_append.mp hy).resolve_right fun h => ny (List.mem_singleton.mp h))
            omega
        have s27 := sJ.trans s7
        wtm_at "rd"
        cases b3 with
        | false =>
          wtm_at "rd"
          exact q false H7 (s2.trans s27) ⟨nofun, fun z => nomatch hb3.mpr (one z)⟩
        | true =>
          wtm_at "rd"
          exact ⟨_, _, _, rfl, s27, all2 (hb3.mp rfl)⟩
      · rintro σ H3 ⟨u13, u14, u15, rfl, sE, nn⟩
        wtm_at "rd"
        exact q true H3 (s2.trans sE) ⟨fun _ j h1 h2 => nn j h1 h2 (by rw [List.length_map]; exact h1), fun _ => rfl⟩
end
end Law


/-! k71 (k70): _law_slope_of, _law_is_path, _law_sum, _law_is_certificate_path, _law_is_frozen_here, _law_is_blocking -/
namespace U
open PySem PySem.Spec PyProof.Rows L2
theorem psum_lim {f : Str → Int} : ∀ {p : List Str}, psum f p ≤ (p.length - 1 : Nat) ∧ -((p.length - 1 : Nat) : Int) ≤ psum f p
  | [] => ⟨Int.le_refl 0, Int.le_refl 0⟩
  | [a] => ⟨Int.le_refl 0, Int.le_refl 0⟩
  | a :: b :: r => by
    have h := psum_lim (f := f) (p := b :: r)
    have e : psum f (a :: b :: r) = slp f a b + psum f (b :: r) := by
      unfold psum
      rw [psl, List.sum_cons]
    have s : slp f a b = 1 ∨ slp f a b = -1 := slp_pm f a b
    rw [e]
    simp only [List.length_cons] at h ⊢
    omega
theorem sl_sum {es : List (Str × Str)} {f : Str → Int} {dir : Int} (hd : dir = 1 ∨ dir = -1) : ∀ {p : List Str}, Wk es p → (SlP es f dir p ↔ psum f p = dir * (p.length - 1 : Nat))
  | [], _ => ⟨fun _ => by show (0 : Int) = dir * 0; omega, fun _ => trivial⟩
  | [a], _ => ⟨fun _ => by show (0 : Int) = dir * 0; omega, fun _ => trivial⟩
  | a :: b :: r, wk => by
    have ih := sl_sum (f := f) hd (p := b :: r) wk.2
    have h := psum_lim (f := f) (p := b :: r)
    have e : psum f (a :: b :: r) = slp f a b + psum f (b :: r) := by
      unfold psum
      rw [psl, List.sum_cons]
    have s : slp f a b = 1 ∨ slp f a b = -1 := slp_pm f a b
    have l : ((a :: b :: r).length - 1 : Nat) = (b :: r).length - 1 + 1 := by simp
    rw [e, l]
    constructor
    · rintro ⟨_, s1, s2⟩
      have := ih.mp s2
      rcases hd with rfl | rfl <;> omega
    · intro z
      refine ⟨wk.1, ?_, ih.mpr ?_⟩ <;> rcases hd with rfl | rfl <;> omega
end U
namespace Law
open PySem PySem.Spec PyProof.Rows L2 U LamX


def spSlJ : Sp := fun vs H Q _ => ∃ (g n e st : Addr) (a b : Str) (ns ord : List Str) (es : List (Addr × Str × Str)) (f : Str → Int), vs = [.ref st, .str a, .str b] ∧ GSt H g n e st ns ord es f ∧ a ∈ ns ∧ b ∈ ns ∧ Q (.int (slp f a b)) H
def spPaJ : Sp := fun vs H Q _ => ∃ (g n e pl : Addr) (ns p : List Str) (es : List (Addr × Str × Str)), vs = [.ref g, .ref pl] ∧ GrS H g n e ns es ∧ H pl = some (.lst (p.map V.str)) ∧ RawP ns 1000 p ∧ ∀ (b : Bool) (H' : Hp), Same H H' → (b = true ↔ Wk (es.map (·.2)) p) → Q (.bl b) H'
def spCpJ (K : PySem.W.Frag) : Sp := fun vs H Q _ => ∃ (g n e st pl ps : Addr) (x : Str) (dir : Int) (ns ord pn p : List Str) (es : List (Addr × Str × Str)) (f : Str → Int), vs = [.ref g, .ref st, .ref pl, .str x, .int dir, .ref ps] ∧ (dir = 1 ∨ dir = -1) ∧ GSt H g n e st ns ord es f ∧ H pl = some (.lst (p.map V.str)) ∧ RawP ns 1000 p ∧ SqT K H ps (pn.map V.str) ∧ ∀ (b : Bool) (H' : Hp), Same H H' → (b = true ↔ cerD ns (es.map (·.2)) f pn dir x (.list (p.map PyData.str))) → Q (.bl b) H'
def spFzJ (K : PySem.W.Frag) : Sp := fun vs H Q _ => ∃ (g n e st ce a b ps : Addr) (x : Str) (ns ord pn p p2 : List Str) (es : List (Addr × Str × Str)) (f : Str → Int), vs = [.ref g, .ref st, .str x, .ref ce, .ref ps] ∧ GSt H g n e st ns ord es f ∧ H ce = some (.tup [.ref a, .ref b]) ∧ H a = some (.lst (p.map V.str)) ∧ H b = some (.lst (p2.map V.str)) ∧ RawP ns 1000 p ∧ RawP ns 1000 p2 ∧ SqT K H ps (pn.map V.str) ∧
  ∀ (b : Bool) (H' : Hp), Same H H' → (b = true ↔ fcD ns (es.map (·.2)) f pn x (.tuple [.list (p.map PyData.str), .list (p2.map PyData.str)])) → Q (.bl b) H'
theorem RawP.le' {ns : List Str} {n m : Nat} {p : List Str} (h : RawP ns n p) (l : n ≤ m) : RawP ns m p := ⟨h.pos, Nat.le_trans h.le l, h.in_⟩
section
variable {P : Program} {w : World} {K : PySem.W.Frag} {mg : Str → Option Value} {base : Heap}
theorem ok_slJ {f : Addr} {fd : FuncData} (F : Fun K "_law_slope_of" "_law_slope_of" s__law_slope_of f fd) (B : Bt mg) : FnG P w K mg base CX0 1 f fd ["_law_state", "_law_one", "_law_other"] spSlJ := by
  refine fnG0 F sc__law_slope_of (fun vs H Q E h => ?_) (fun cdv A outer s H vs Q E hr h => ?_)
  · obtain ⟨g, n, e, st, a, b, ns, ord, es, f, rfl, _⟩ := h
    rfl
  · obtain ⟨g, n, e, st, a, b, ns, ord, es, f, rfl, gs, ha, hb, q⟩ := h
    have nd := sc__law_slope_of.nd
    have hu := hr.u1
    refine ⟨_, (pss_one (ps_ret (pe_ifExp (pt_cmpR (kEq K rfl hr.u64) (pe_dget hu (pv 0) (pv 2) (fun _ _ => rfl)) (pe_op uMod (pe_op (kAdd K rfl) (pe_dget hu (pv 0) (pv 1) (fun _ _ => rfl)) pe_int) pe_int) (nomark _)) pe_int (pe_op uSub pe_int pe_int)))), ?_⟩
    wtm_at "rd"
    refine rd_dat (.inl gs.st) (kvF_val (gs.inO _ hb)) rfl ?_
    wtm_at "rd"
    refine rd_dat (.inl gs.st) (kvF_val (gs.inO _ ha)) rfl ?_
    wtm_at "rd"
    have ta := gs.tri a ha
    have tb := gs.tri b hb
    refine rd_split (fun c => ?_) (fun c => ?_)
    · have c : f b = (f a + 1) % 3 := c
      wtm_at "rd"
      have e : slp f a b = 1 := by
        unfold slp
        rw [if_pos (by omega)]
      rw [e] at q
      exact q
    · have c : ¬ f b = (f a + 1) % 3 := c
      wtm_at "rd"
      have e : slp f a b = 0 - 1 := by
        unfold slp
        rw [if_neg (by omega)]
        rfl
      rw [e] at q
      exact q
theorem ok_paJ {f : Addr} {fd : FuncData} (F : Fun K "_law_is_path" "_law_is_path" s__law_is_path f fd) (B : Bt mg) : FnG P w K mg base CX0 1 f fd ["_law_graph", "_law_path"] spPaJ := by
  refine fnG0 F sc__law_is_path (fun vs H Q E h => ?_) (fun cdv A outer s H vs Q E hr h => ?_)
  · obtain ⟨g, n, e, pl, ns, p, es, rfl, _⟩ := h
    rfl
  · have hu65 : (A.deeper (envOfC "_law_is_path" (defScope s__law_is_path) s.heap.objs.size f cdv)).units + 65 < cLine := by
      have := hr.u100
      omega
    obtain ⟨g, n, e, pl, ns, p, es, rfl, gs, hpl, ⟨pp, p1000, pin⟩, q⟩ := h
    have nd := sc__law_is_path.nd
    have hu := hr.u1
    refine ⟨_, (pss_cons (ps_if (PW.pt (pw_or (pt_not (pt_val (pe_callB (kIsi K rfl) (by rfl) B.isinstance bb_isinstance (pa_cons (pv 1) (pa_cons (pe_ty rfl B.list bb_list) pa_nil))))) (pw_or1 (pt_not (pt_chain uLe uLe pe_int (pe_callB (kLen K rfl) (by rfl) B.len bb_len (pa_cons (pv 1) pa_nil)) pe_int))))) (pss_one (ps_ret pe_bl)) pss_nil)
  (pss_cons (ps_for PassesOwn.never rfl (pi_range1 rfl B.range (pa_cons (pe_callB (kLen K rfl) (by rfl) B.len bb_len (pa_cons (pv 1) pa_nil)) pa_nil)) (pg_name (i := 2) nd rfl (by first | exact Or.inl rfl | exact Or.inr rfl)) (pss_cons (ps_if (PW.pt (pw_or (pt_not (pt_val (pe_callB (kIsi K rfl) (by rfl) B.isinstance bb_isinstance (pa_cons (pe_ix (kIx K rfl) (pv 1) (pv 2) (fun _ _ => rfl)) (pa_cons (pe_ty rfl B.str bb_str) pa_nil))))) (pw_or1 (pt_cmpR (kNotIn K rfl) (pe_ix (kIx K rfl) (pv 1) (pv 2) (fun _ _ => rfl)) (pe_ix (kIx K rfl) (pv 0) pe_int (fun _ _ => rfl)) rfl)))) (pss_one (ps_ret pe_bl)) pss_nil)
  (pss_one (ps_if (PW.pt (pw_and (pt_cmpR uGt (pv 2) pe_int (nomark _)) (pw_and1 (pt_cmpR (kNinT K rfl hu65) (pe_callTy (kTuple K rfl) (by rfl) B.tuple bb_tuple (pa_cons (pe_callB (kSorted K rfl hr.u64) (by rfl) B.sorted bb_sorted (pa_cons (pe_lst (pa_cons (pe_ix (kIx K rfl) (pv 1) (pe_op uSub (pv 2) pe_int) (fun _ _ => rfl)) (pa_cons (pe_ix (kIx K rfl) (pv 1) (pv 2) (fun _ _ => rfl)) pa_nil))) pa_nil)) pa_nil)) (pe_ix (kIx K rfl) (pv 0) pe_int (fun _ _ => rfl)) rfl)))) (pss_one (ps_ret pe_bl)) pss_nil))))
  (pss_one (ps_ret pe_bl)))), ?_⟩
    have sok : ∀ x ∈ ns, PyData.strOk x = true := fun x hx => (gs.ok.names.ok x hx).sok
    wtm_at "rd"
    refine rd_isi (ty_lst hpl) rfl ?_
    rw [show isT Ty.lst Ty.lst = true from rfl]
    wtm_at "rd"
    refine rd_lenL (SqL.of hpl) ?_
    rw [List.length_map]
    wtm_at "rd"
    rw [decide_eq_true (show (1 : Int) ≤ (p.length : Int) from by omega)]
    wtm_at "rd"
    rw [decide_eq_true (show (p.length : Int) ≤ 1000 from by omega)]
    wtm_at "rd"
    refine rd_lenL (SqL.of hpl) ?_
    rw [List.length_map]
    wtm_at "rd"
    refine turnsR (fun i σ H' => ∃ u2 : Option V, σ = [some (.ref g), some (.ref pl), u2] ∧ Same H H' ∧ ∀ j (h : j + 1 < p.length), j + 1 < i → Adj (es.map (·.2)) p[j] p[j + 1]) ⟨_, rfl, (fun b o h => h), fun j h z => absurd z (Nat.not_lt_zero _)⟩ ?_ ?_
    · rintro i σ H1 hi ⟨u2, rfl, s1, ad⟩
      have hi : i < p.length := by omega
      have gs1 := gs.same s1
      have hp1 := s1 _ _ hpl
      have at1 : atI (p.map V.str) ((i : Nat) : Int) = some (.str p[i]) := atI_nat (by rw [List.getElem?_map, List.getElem?_eq_getElem hi]; rfl)
      rw [Int.zero_add]
      wtm_at "rd"
      refine rd_ixL (SqL.of hp1) at1 ?_
      wtm_at "rd"
      refine rd_isi ty_str rfl ?_
      rw [show isT Ty.str Ty.str = true from rfl]
      wtm_at "rd"
      refine rd_ixL (SqL.of hp1) at1 ?_
      wtm_at "rd"
      refine rd_ixT (SqT.of gs1.gr.top) (v := .ref n) rfl ?_
      refine rd_ninST (SqT.of gs1.gr.nodes) ?_
      rw [decide_eq_true (pin _ (List.getElem_mem hi))]
      wtm_at "rd"
      refine rd_split (fun c0 => ?_) (fun c0 => ?_)
      · have c0 : (0 : Int) < (i : Nat) := c0
        obtain ⟨k, rfl⟩ : ∃ k, i = k + 1 := ⟨i - 1, by omega⟩
        have hk : k < p.length := by omega
        have at0 : atI (p.map V.str) (((k + 1 : Nat) : Int) - 1) = some (.str p[k]) := by
          rw [show (((k + 1 : Nat) : Int) - 1) = (k : Int) from by omega]
          exact atI_nat (by rw [List.getElem?_map, List.getElem?_eq_getElem hk]; rfl)
        have yin := pin _ (List.getElem_mem hk)
        have zin := pin _ (List.getElem_mem hi)
        have stp : Adj (es.map (·.2)) p[k] p[k + 1] → ∀ j (h : j + 1 < p.length), j + 1 < k + 1 + 1 → Adj (es.map (·.2)) p[j] p[j + 1] := fun a j h z => by
          by_cases e : j = k
          · subst e
            exact a
          · exact ad j h (by omega)
        have unst : Wk (es.map (·.2)) p → Adj (es.map (·.2)) p[k] p[k + 1] := fun w => wk_atW w k hi
        generalize p[k] = y at *
        generalize p[k + 1] = z at *
        wtm_at "rd"
        refine rd_ixL (SqL.of hp1) at0 ?_
        wtm_at "rd"
        refine rd_ixL (SqL.of hp1) at1 ?_
        wtm_at "rd"
        intro t1 ft1
        have k1 := Same.new (o := .lst [.str y, .str z]) ft1
        refine rd_sortS (xs := [y, z]) (SqL.of upd_same) (by show 2 ≤ 100000; decide) ?_
        intro ys py sy t2 ft2
        have k2 := Same.new (o := .lst (ys.map V.str)) ft2
        wtm_at "rd"
        refine rd_tupleL (SqL.of upd_same) ?_
        intro t3 ft3
        have k3 := Same.new (o := .tup (ys.map V.str)) ft3
        have sA := (k1.trans k2).trans k3
        have h3 := @upd_same (upd (upd H1 t1 (.lst [.str y, .str z])) t2 (.lst (ys.map V.str))) t3 (.tup (ys.map V.str))
        generalize upd (upd (upd H1 t1 (.lst [.str y, .str z])) t2 (.lst (ys.map V.str))) t3 (.tup (ys.map V.str)) = Ha at sA h3
        rw [sort2gS py sy] at h3
        have gsA := gs1.same sA
        wtm_at "rd"
        refine rd_ixT (SqT.of gsA.gr.top) (v := .ref e) rfl ?_
        refine rd_ninTE (e := eOf y z) (SqT.of h3) (SqT.of gsA.gr.edges) (fun x hx => SqT.of (gsA.gr.pairs x hx)) (by
          rcases eOf_cases y z with z | z <;> rw [z]
          · exact ⟨sok _ yin, sok _ zin⟩
          · exact ⟨sok _ zin, sok _ yin⟩) (fun x hx => ⟨sok _ (gs.ok.mem x hx).1, sok _ (gs.ok.mem x hx).2⟩) ?_
        wtm_at "rd"
        refine rd_nsplit (fun c1 => ?_) (fun c1 => ?_)
        · wtm_at "rd"
          exact q false Ha (s1.trans sA) ⟨nofun, fun w => absurd (adj_eOf gs.ok.lt (unst w)) c1⟩
        · have a : Adj (es.map (·.2)) y z := by
            rcases eOf_cases y z with z' | z' <;> rw [z'] at c1
            · exact .inl c1
            · exact .inr c1
          exact ⟨_, rfl, s1.trans sA, stp a⟩
      · have c0 : ¬ (0 : Int) < (i : Nat) := c0
        wtm_at "rd"
        exact ⟨_, rfl, s1, fun j h z => absurd z (by omega)⟩
    · rintro σ H1 ⟨u2, rfl, s1, ad⟩
      wtm_at "rd"
      exact q true H1 s1 ⟨fun _ => wk_of fun j h => ad j h (by omega), fun _ => rfl⟩
structure JCc (P : Program) (w : World) (K : PySem.W.Frag) (mg : Str → Option Value) (base : Heap) : Prop where
  _law_is_certificate_path : Cal P w K mg base CX0 3 "_law_is_certificate_path" (spCpJ K)
theorem ok_fzJ {f : Addr} {fd : FuncData} (F : Fun K "_law_is_frozen_here" "_law_is_frozen_here" s__law_is_frozen_here f fd) (B : Bt mg) (C : JCc P w K mg base) : FnG P w K mg base CX0 4 f fd ["_law_graph", "_law_state", "_law_node", "_law_certificate", "_law_pins"] (spFzJ K) := by
  refine fnG0 F sc__law_is_frozen_here (fun vs H Q E h => ?_) (fun cdv A outer s H vs Q E hr h => ?_)
  · obtain ⟨g, n, e, st, ce, a, b, ps, x, ns, ord, pn, p, p2, es, f, rfl, _⟩ := h
    rfl
  · obtain ⟨g, n, e, st, ce, a, b, ps, x, ns, ord, pn, p, p2, es, f, rfl, gs, hce, ha, hb, r1, r2, hps, q⟩ := h
    have nd := sc__law_is_frozen_here.nd
    have hu := hr.u1
    refine ⟨_, (pss_cons (ps_if (PW.pt (pw_or (pt_not (pt_val (pe_callB (kIsi K rfl) (by rfl) B.isinstance bb_isinstance (pa_cons (pv 3) (pa_cons (pe_ty rfl B.tuple bb_tuple) pa_nil))))) (pw_or1 (pt_cmpR (kNe K rfl hr.u64) (pe_callB (kLen K rfl) (by rfl) B.len bb_len (pa_cons (pv 3) pa_nil)) pe_int (nomark _))))) (pss_one (ps_ret pe_bl)) pss_nil)
  (pss_cons (ps_if (pt_not (pt_val (pe_c C._law_is_certificate_path hr (by decide) rfl (pa_cons (pv 0) (pa_cons (pv 1) (pa_cons (pe_ix (kIx K rfl) (pv 3) pe_int (fun _ _ => rfl)) (pa_cons (pv 2) (pa_cons pe_int (pa_cons (pv 4) pa_nil))))))))) (pss_one (ps_ret pe_bl)) pss_nil)
  (pss_one (ps_ret (pe_c C._law_is_certificate_path hr (by decide) rfl (pa_cons (pv 0) (pa_cons (pv 1) (pa_cons (pe_ix (kIx K rfl) (pv 3) pe_int (fun _ _ => rfl)) (pa_cons (pv 2) (pa_cons (pe_op uSub pe_int pe_int) (pa_cons (pv 4) pa_nil))))))))))), ?_⟩
    wtm_at "rd"
    refine rd_isi (ty_tup hce) rfl ?_
    rw [show isT Ty.tup Ty.tup = true from rfl]
    wtm_at "rd"
    refine rd_lenT (SqT.of hce) ?_
    wtm_at "rd"
    refine rd_nno rfl ?_
    wtm_at "rd"
    refine rd_ixT (SqT.of hce) (v := .ref a) rfl ?_
    wtm_at "rd"
    refine ⟨g, n, e, st, a, ps, x, 1, ns, ord, pn, p, es, f, rfl, .inl rfl, gs, ha, r1, hps, fun b1 H1 s1 hb1 => ?_⟩
    wtm_at "rd"
    cases b1 with
    | false =>
      wtm_at "rd"
      exact q false H1 s1 ⟨nofun, fun ⟨d1, d2, e, h1, _⟩ => by
        cases e
        exact nomatch hb1.mpr h1⟩
    | true =>
    wtm_at "rd"
    refine rd_ixT (SqT.of (s1 _ _ hce)) (v := .ref b) rfl ?_
    wtm_at "rd"
    refine ⟨g, n, e, st, b, ps, x, -1, ns, ord, pn, p2, es, f, rfl, .inr rfl, gs.same s1, s1 _ _ hb, r2, Same.seqT s1 hps, fun b2 H2 s2 hb2 => ?_⟩
    exact q b2 H2 (s1.trans s2) ⟨fun z => ⟨_, _, rfl, hb1.mp rfl, hb2.mp z⟩, fun ⟨d1, d2, e, _, h2⟩ => by
      cases e
      exact hb2.mpr h2⟩
end
end Law


/-! random problems as they are used; neighbors, possible values, a random lift -/
namespace U
open PySem PySem.Spec PyProof.Rows L2
end U
namespace Law
open PySem PySem.Spec PyProof.Rows L2 U


theorem use_problem {H : Hp} {p : Addr} {most : Int} {Q : VK} {E : XK} (h : PoolAt H p) (m0 : 0 ≤ most) (m1 : most ≤ 25)
    (k : ∀ (t g n e st ps : Addr) (ns ord pn : List Str) (es : List (Addr × Str × Str)) (f : Str → Int) (H' : Hp), Go p H H' → H t = none → H g = none → H st = none → H ps = none → H' t = some (.tup [.ref g, .ref st, .ref ps]) → GSt H' g n e st ns ord es f → H' ps = some (.tup (pn.map V.str)) → (∀ x ∈ pn, x ∈ ns) → pn.length ≤ ns.length → Asc pn → (ns.length : Int) ≤ most → Q (.ref t) H') : spProblem [.ref p, .int most] H Q E :=
  ⟨p, most, rfl, h, m0, m1, fun t g n e st ps ns ord pn es f H' go f1 f2 f3 f4 ht gr ok pm ln le hs tri pro hps pin pl asc => k t g n e st ps ns ord pn es f H' go f1 f2 f3 f4 ht ⟨gr, ok, pm, by omega, le, hs, tri, pro⟩ hps pin pl asc ln⟩
section
variable {P : Program} {w : World} {K : PySem.W.Frag} {mg : Str → Option Value} {base : Heap}
end
end Law


/-! plain: a list that is worked off while it grows; rising cycles by what rises; the first anchor with a number -/
namespace U
open PySem PySem.Spec PyProof.Rows L2
inductive SR (S : Str → Str → Prop) : Str → Str → Prop
  | refl {a : Str} : SR S a a
  | step {a b c : Str} : SR S a b → S b c → SR S a c
theorem SR.trans {S : Str → Str → Prop} {a b c : Str} (x : SR S a b) (y : SR S b c) : SR S a c := by
  induction y with
  | refl => exact x
  | step _ s ih => exact .step ih s
/-- xs holds the seeds, and what follows on its first i places -/
structure Wlk (S : Str → Str → Prop) (seed : Str → Prop) (ns xs : List Str) (i : Nat) : Prop where
  nd : xs.Nodup
  sub : ∀ y ∈ xs, y ∈ ns
  re : ∀ y ∈ xs, ∃ z, seed z ∧ SR S z y
  sd : ∀ z, seed z → z ∈ xs
  cl : ∀ j, j < i → ∀ c, xs[j]? = some c → ∀ o, S c o → o ∈ xs
  le : i ≤ xs.length
section
variable {S : Str → Str → Prop} {seed : Str → Prop} {ns xs : List Str} {i : Nat}
theorem Wlk.all (w : Wlk S seed ns xs i) (e : xs.length ≤ i) (y : Str) : y ∈ xs ↔ ∃ z, seed z ∧ SR S z y := by
  have key : ∀ {z y : Str}, SR S z y → seed z → y ∈ xs := by
    intro z y r hz
    induction r with
    | refl => exact w.sd _ hz
    | step _ s ih =>
      obtain ⟨j, hj, e2⟩ := List.getElem_of_mem ih
      exact w.cl j (by omega) _ (by rw [List.getElem?_eq_getElem hj, e2]) _ s
  exact ⟨w.re y, fun ⟨z, hz, r⟩ => key r hz⟩
theorem Wlk.len (w : Wlk S seed ns xs i) : xs.length ≤ ns.length := nodup_len w.nd w.sub
theorem Wlk.turn (w : Wlk S seed ns xs i) {c : Str} {new : List Str} (hc : xs[i]? = some c) (nd : (xs ++ new).Nodup) (sub : ∀ y ∈ new, y ∈ ns) (re : ∀ y ∈ new, S c y) (all : ∀ o, S c o → o ∈ xs ++ new) : Wlk S seed ns (xs ++ new) (i + 1) := by
  have hi : i < xs.length := by
    rcases Nat.lt_or_ge i xs.length with h | h
    · exact h
    · rw [List.getElem?_eq_none h] at hc
      cases hc
  have cm : c ∈ xs := by
    rw [List.getElem?_eq_getElem hi] at hc
    rw [← Option.some.inj hc]
    exact List.getElem_mem hi
  refine ⟨nd, fun y hy => ?_, fun y hy => ?_, fun z hz => List.mem_append_left _ (w.sd z hz), fun j hj d hd o so => ?_, ?_⟩
  · rcases List.mem_append.mp hy with h | h
    · exact w.sub y h
    · exact sub y h
  · rcases List.mem_append.mp hy with h | h
    · exact w.re y h
    · obtain ⟨z, h1, h2⟩ := w.re c cm
      exact ⟨z, h1, .step h2 (re y h)⟩
  · rw [List.getElem?_append_left (by omega)] at hd
    by_cases z : j = i
    · subst z
      rw [hc] at hd
      cases hd
      exact all o so
    · exact List.mem_append_left _ (w.cl j (by omega) d hd o so)
  · rw [List.length_append]
    omega
end
end U


/-! _law_random_constraints with pins (k69, k72) -/
namespace Law
open PySem PySem.Spec PyProof.Rows L2 U


section
variable {P : Program} {w : World} {K : PySem.W.Frag} {mg : Str → Option Value} {base : Heap}
end
end Law


/-! _law_random_state: another state of the graph -/
namespace U
open PySem PySem.Spec PyProof.Rows L2
end U
namespace Law
open PySem PySem.Spec PyProof.Rows L2 U


section
variable {P : Program} {w : World} {K : PySem.W.Frag} {mg : Str → Option Value} {base : Heap}
end
end Law


/-! a random round of moves -/
namespace Law
open PySem PySem.Spec PyProof.Rows L2 U LamX


section
variable {P : Program} {w : World} {K : PySem.W.Frag} {mg : Str → Option Value} {base : Heap}
end
end Law


/-! _law_reachable: all states that can be reached -/
namespace Law
open PySem PySem.Spec PyProof.Rows L2 U


section
variable {P : Program} {w : World} {K : PySem.W.Frag} {mg : Str → Option Value} {base : Heap}
end
end Law


/-! k69: _law_sublists, _law_suffices -/
namespace U
open PySem PySem.Spec PyProof.Rows L2
/-- lists of constraints at their places -/
def LcAt (H : Hp) (ss : List (Addr × List (Addr × List Str))) : Prop := ∀ s ∈ ss, H s.1 = some (.lst (s.2.map fun c => V.ref c.1))
theorem LcAt.same {H H' : Hp} {ss : List (Addr × List (Addr × List Str))} (h : LcAt H ss) (s : Same H H') : LcAt H' ss := fun c hc => s _ _ (h c hc)
end U
namespace Law
open PySem PySem.Spec PyProof.Rows L2 U


section
variable {P : Program} {w : World} {K : PySem.W.Frag} {mg : Str → Option Value} {base : Heap}
end
end Law


/-! k72: _law_relaxed -/
namespace Law
open PySem PySem.Spec PyProof.Rows L2 U


section
variable {P : Program} {w : World} {K : PySem.W.Frag} {mg : Str → Option Value} {base : Heap}
end
end Law


/-! k71 (k70): _law_tree -/
namespace Law
open PySem PySem.Spec PyProof.Rows L2 U LamX


section
variable {P : Program} {w : World} {K : PySem.W.Frag} {mg : Str → Option Value} {base : Heap}
end
end Law

/-! repr of data that holds lists, tuples and dicts of atoms, to any depth -/
namespace U
open PySem PySem.Spec PyProof.Rows L2
/-- None, a truth value, a number, a text -/
def vD : V → PyData
  | .bl b => .bool b
  | .int i => .int i
  | .str s => .str s
  | _ => .none
def Atm (v : V) : Prop := v = .non ∨ (∃ b, v = .bl b) ∨ (∃ i, v = .int i) ∨ ∃ s, v = .str s
mutual
inductive Dg (H : Hp) : V → PyData → Prop
  | atm {v : V} : Atm v → Dg H v (vD v)
  | tup {a : Addr} {xs : List V} {ds : List PyData} : H a = some (.tup xs) → DgAll H xs ds → Dg H (.ref a) (.tuple ds)
  | lst {a : Addr} {xs : List V} {ds : List PyData} : H a = some (.lst xs) → DgAll H xs ds → Dg H (.ref a) (.list ds)
  | dct {a : Addr} {ns : List Str} {F : Str → V} : H a = some (.dK (kvG ns F)) → (∀ n ∈ ns, Atm (F n)) → Dg H (.ref a) (.dict (ns.map fun n => (.str n, vD (F n))))
inductive DgAll (H : Hp) : List V → List PyData → Prop
  | nil : DgAll H [] []
  | cons {v : V} {vs : List V} {d : PyData} {ds : List PyData} : Dg H v d → DgAll H vs ds → DgAll H (v :: vs) (d :: ds)
end
mutual
theorem Dg.ext {H H' : Hp} (s : ∀ b o, H b = some o → (∀ ps, o ≠ .tbl ps) → H' b = some o) : ∀ {v : V} {d : PyData}, Dg H v d → Dg H' v d
  | _, _, .atm h => .atm h
  | _, _, .tup h t => .tup (s _ _ h nofun) (DgAll.ext s t)
  | _, _, .lst h t => .lst (s _ _ h nofun) (DgAll.ext s t)
  | _, _, .dct h t => .dct (s _ _ h nofun) t
theorem DgAll.ext {H H' : Hp} (s : ∀ b o, H b = some o → (∀ ps, o ≠ .tbl ps) → H' b = some o) : ∀ {v : List V} {d : List PyData}, DgAll H v d → DgAll H' v d
  | _, _, .nil => .nil
  | _, _, .cons h t => .cons (Dg.ext s h) (DgAll.ext s t)
end
section
variable {X : Cx} {pins : List (Addr × Obj)} {σ : L2.St} {H : Hp} {s : Shared}
theorem atm_reads {h : Heap} {v : V} {u : Value} (a : Atm v) (r : RelV v u) : Reads h u (vD v) [] := by
  rcases a with rfl | ⟨b, rfl⟩ | ⟨i, rfl⟩ | ⟨x, rfl⟩
  · cases r
    exact .none
  · cases r
    exact .bool _
  · obtain ⟨t, rfl⟩ : ∃ t, u = Value.int i t := r
    exact .int _ _
  · obtain ⟨t, rfl⟩ : ∃ t, u = Value.str x t := r
    exact .str _ _
theorem kg_pairs {h : Heap} {F : Str → V} : ∀ {ns : List Str} {vs : List (Key × Value)}, (∀ n ∈ ns, Atm (F n)) → KV (kvG ns F) vs → PyProof.V.PairsRead h encK vs (ns.map fun n => (.str n, vD (F n))) []
  | [], vs, _, r => by
    cases r
    exact .nil
  | n :: ns, vs, a, r => by
    cases r with
    | @cons p q ps qs hpq t =>
      obtain ⟨h1, h2⟩ := hpq
      obtain ⟨k, v⟩ := q
      have h1' : (Sum.inr n : Key) = k := h1
      subst h1'
      exact .cons (k := .inr n) (as := []) (bs := []) (atm_reads (a n List.mem_cons_self) h2) (kg_pairs (fun m hm => a m (List.mem_cons_of_mem _ hm)) t)
/-- what repr says of a value, whatever lists lie in it -/
def Rk (P : Program) (w : World) (h : Heap) (u : Value) (d : PyData) : Prop := (∃ as, Reads h u d as) ∧ (d.shown.length ≤ sizeLine → ∃ bs, ReadAtMost h d.depth bs ∧ ReprK P w bs h d.depth u d.shown)
def RkAll (P : Program) (w : World) (h : Heap) (us : List Value) (ds : List PyData) : Prop := (∃ as, ReadsAll h us ds as) ∧ ((∀ t ∈ PyData.shownAll ds, t.length ≤ sizeLine) → ∃ bs, ReadAtMost h (PyData.depthAll ds) bs ∧ ReprAllK P w bs h (PyData.depthAll ds) us (PyData.shownAll ds))
theorem rk_of {P : Program} {w : World} {h : Heap} {u : Value} {d : PyData} {as : List Addr} (r : Reads h u d as) (hs : d.showable = true) (n : sysModules ∉ as) : Rk P w h u d := ⟨⟨_, r⟩, fun z => ReprK.of_reads r hs (fun _ => n) z⟩
theorem rk_nil {P : Program} {w : World} {h : Heap} : RkAll P w h [] [] := ⟨⟨_, .nil⟩, fun _ => ⟨[], (fun _ z => nomatch z), by simp only [PyData.shownAll]; exact .nil⟩⟩
theorem rk_cons {P : Program} {w : World} {h : Heap} {u : Value} {us : List Value} {d : PyData} {ds : List PyData} (h1 : Rk P w h u d) (h2 : RkAll P w h us ds) : RkAll P w h (u :: us) (d :: ds) := by
  obtain ⟨⟨as, r1⟩, k1⟩ := h1
  obtain ⟨⟨bs, r2⟩, k2⟩ := h2
  refine ⟨⟨_, .cons r1 r2⟩, fun z => ?_⟩
  obtain ⟨b1, hb1, q1⟩ := k1 (z _ (by simp only [PyData.shownAll]; exact List.mem_cons_self))
  obtain ⟨b2, hb2, q2⟩ := k2 fun t ht => z t (by simp only [PyData.shownAll]; exact List.mem_cons_of_mem _ ht)
  have e1 : d.depth ≤ PyData.depthAll (d :: ds) := by rw [PyData.depthAll]; omega
  have e2 : PyData.depthAll ds ≤ PyData.depthAll (d :: ds) := by rw [PyData.depthAll]; omega
  refine ⟨b1 ++ b2, (hb1.mono e1).append (hb2.mono e2), ?_⟩
  simp only [PyData.shownAll]
  exact .cons ((q1.more fun b hb => List.mem_append_left _ hb).level_le e1) (q2.more_le (fun b hb => List.mem_append_right _ hb) e2)
theorem rk_list {P : Program} {w : World} {h : Heap} {a : Addr} {o : Obj} {us : List Value} {n : Nat} {ds : List PyData} (h1 : h.get? a = some o) (h2 : o.cls = .type "list") (h3 : o.data = .seq us.toArray n) (k : RkAll P w h us ds) : Rk P w h (.ref a) (.list ds) := by
  obtain ⟨⟨as, r⟩, k⟩ := k
  have rd : Reads h (.ref a) (.list ds) (a :: as) := .list h1 h2 h3 (by simpa using r)
  refine ⟨⟨_, rd⟩, fun z => ?_⟩
  have z' : (listText (PyData.shownAll ds)).length ≤ sizeLine := by simpa only [PyData.shown] using z
  obtain ⟨bs, hb, hk⟩ := k fun t ht => Nat.le_trans (listText_mem_le ht) z'
  have hna : a ∉ bs := not_mem_of_deeper rd (by simp only [PyData.depth]; omega) hb
  refine ⟨a :: bs, ReadAtMost.cons rd (by simp only [PyData.depth]; omega) hb, ?_⟩
  simp only [PyData.depth, PyData.shown]
  cases us with
  | nil =>
    cases r
    simp only [PyData.shownAll, listText_nil]
    exact ReprK.listEmpty h1 h2 h3
  | cons x l => exact ReprK.list h1 h2 h3 hna (by simpa using hk.length_eq) fun i y e => hk.item i y (by simpa using e)
theorem rk_tup {P : Program} {w : World} {h : Heap} {a : Addr} {o : Obj} {us : List Value} {n : Nat} {ds : List PyData} (h1 : h.get? a = some o) (h2 : o.cls = .type "tuple") (h3 : o.data = .seq us.toArray n) (k : RkAll P w h us ds) : Rk P w h (.ref a) (.tuple ds) := by
  obtain ⟨⟨as, r⟩, k⟩ := k
  have rd : Reads h (.ref a) (.tuple ds) as := .tuple h1 h2 h3 (by simpa using r)
  refine ⟨⟨_, rd⟩, fun z => ?_⟩
  have z' : (tupleText (PyData.shownAll ds)).length ≤ sizeLine := by simpa only [PyData.shown] using z
  obtain ⟨bs, hb, hk⟩ := k fun t ht => Nat.le_trans (tupleText_mem_le ht) z'
  have hna : a ∉ bs := not_mem_of_deeper rd (by simp only [PyData.depth]; omega) hb
  refine ⟨a :: bs, ReadAtMost.cons rd (by simp only [PyData.depth]; omega) hb, ?_⟩
  simp only [PyData.depth, PyData.shown]
  exact ReprK.tuple h1 h2 h3 hna (by simpa using hk)
mutual
theorem Dg.rk (I : Inv X pins σ H s) : ∀ {v : V} {d : PyData} {u : Value}, Dg H v d → d.showable = true → RelV v u → Rk X.prog X.w s.heap u d
  | _, _, _, .atm a, hs, r => rk_of (atm_reads a r) hs List.not_mem_nil
  | _, _, _, .tup h t, hs, r => by
    cases r
    obtain ⟨its, rv, ⟨o, ho, hc, n, hdat⟩, _⟩ := I.tuple (SqT.of h)
    exact rk_tup ho hc hdat (DgAll.rk I t (by simpa [PyData.showable] using hs) rv)
  | _, _, _, .lst h t, hs, r => by
    cases r
    obtain ⟨its, rv, ⟨o, n, ho, hc, _, hdat⟩, _⟩ := I.list (SqL.of h)
    exact rk_list ho hc hdat (DgAll.rk I t (by simpa [PyData.showable] using hs) rv)
  | _, _, _, .dct h a, hs, r => by
    cases r
    obtain ⟨_, hd, vs, rel, dd⟩ := dk_of I.hok h
    refine rk_of (PyProof.V.reads_dictOf key_reads dd (kg_pairs a rel)) hs fun z => ?_
    rw [List.mem_singleton] at z
    rw [z] at hd
    simp at hd
theorem DgAll.rk (I : Inv X pins σ H s) : ∀ {v : List V} {d : List PyData} {u : List Value}, DgAll H v d → PyData.showableAll d = true → Vals v u → RkAll X.prog X.w s.heap u d
  | _, _, _, .nil, _, r => by
    cases r
    exact rk_nil
  | _, _, _, .cons (d := d) (ds := ds) h t, hs, r => by
    cases r with
    | cons r1 r2 =>
      have hs' : d.showable = true ∧ PyData.showableAll ds = true := by simpa [PyData.showableAll] using hs
      exact rk_cons (Dg.rk I h hs'.1 r1) (DgAll.rk I t hs'.2 r2)
end
/-- repr of a tuple -/
def rReprG : List V → Hp → VK → Prop := fun xs H Q => ∃ (a : Addr) (vs : List V) (ds : List PyData), xs = [.ref a] ∧ H a = some (.tup vs) ∧ DgAll H vs ds ∧ Shows (.tuple ds) ∧ Q (.str (PyData.tuple ds).shown) H
theorem kReprG (hg : X.A.guards = some []) (hu : X.A.units + 64 < cLine) : CallR X (.builtin "repr") rReprG := by
  intro pins s σ H xs us Q I r h
  obtain ⟨a, vs, ds, rfl, ha, hd, S, q⟩ := h
  obtain ⟨u, eu, rx⟩ := vals1 r
  subst eu
  cases rx
  obtain ⟨its, rv, ⟨o, ho, hc, n, hdat⟩, _⟩ := I.tuple (SqT.of ha)
  have hdp := S.dp
  have hsa : PyData.showableAll ds = true := by
    have := S.sh
    simpa [PyData.showable] using this
  obtain ⟨⟨as, r⟩, k⟩ := hd.rk I hsa rv
  have z : (PyData.tuple ds).shown.length ≤ sizeLine := PyData.shown_fits_bulk (by decide) (by decide) S.lv S.bk
  have z' : (tupleText (PyData.shownAll ds)).length ≤ sizeLine := by simpa only [PyData.shown] using z
  have rd : Reads s.heap (.ref a) (.tuple ds) as := .tuple ho hc hdat (by simpa using r)
  obtain ⟨bs, hb, hk⟩ := k fun t ht => Nat.le_trans (tupleText_mem_le ht) z'
  have hna : a ∉ bs := not_mem_of_deeper rd (by simp only [PyData.depth]; omega) hb
  have dd : PyData.depthAll ds + 1 ≤ 50 := by
    have := S.dp
    simp only [PyData.depth] at this
    omega
  refine call_repr_slot (by omega) ⟨o, ho, hc⟩ PySem.F.slot_tuple_repr (call_tuple_reprK ho hc hdat hna (by simpa using hk) (A := X.A.in1) hg (fun b _ => Clear.nil b) (by show X.A.units + 1 + (PyData.depthAll ds + 1) < cLine; omega) (fun b o e => e) (fun h' u tk hk => ⟨_, _, rfl, ?_⟩) z')
  refine ⟨.str (PyData.tuple ds).shown, H, I.kept (t' := tk) hk, ⟨u, ?_⟩, q⟩
  simp only [PyData.shown]
end
theorem rd_reprG {H : Hp} {Q : VK} {a : Addr} {vs : List V} {ds : List PyData} (h : H a = some (.tup vs)) (hd : DgAll H vs ds) (s : Shows (.tuple ds)) (q : Q (.str (PyData.tuple ds).shown) H) : rReprG [.ref a] H Q := ⟨a, vs, ds, rfl, h, hd, s, q⟩
end U

/-! plain: sizes of shown data, dicts among them; data of atoms -/
namespace U
open PySem PySem.Spec PyProof.Rows L2
structure Wz (n m : Nat) (d : PyData) : Prop where
  lv : d.leavesShort 13 = true
  sh : d.showable = true
  bk : d.bulk ≤ n
  dp : d.depth ≤ m
structure WzA (n m : Nat) (ds : List PyData) : Prop where
  lv : PyData.leavesShortAll 13 ds = true
  sh : PyData.showableAll ds = true
  bk : PyData.bulkAll ds ≤ n
  dp : PyData.depthAll ds ≤ m
theorem WzA.nil : WzA 0 0 [] := ⟨by simp [PyData.leavesShortAll], by simp [PyData.showableAll], by simp [PyData.bulkAll], by simp [PyData.depthAll]⟩
theorem WzA.cons {n m n2 m2 : Nat} {d : PyData} {ds : List PyData} (h : Wz n m d) (h2 : WzA n2 m2 ds) : WzA (n + 1 + n2) (m + m2) (d :: ds) := by
  have := h.bk
  have := h2.bk
  have := h.dp
  have := h2.dp
  refine ⟨?_, ?_, ?_, ?_⟩
  · rw [PyData.leavesShortAll, h.lv, h2.lv]; rfl
  · rw [PyData.showableAll, h.sh, h2.sh]; rfl
  · rw [PyData.bulkAll]; omega
  · rw [PyData.depthAll]; omega
theorem Wz.tup {n m : Nat} {ds : List PyData} (h : WzA n m ds) : Wz n (m + 1) (.tuple ds) := by
  have := h.bk
  have := h.dp
  exact ⟨by rw [PyData.leavesShort]; exact h.lv, by rw [PyData.showable]; exact h.sh, by rw [PyData.bulk]; omega, by rw [PyData.depth]; omega⟩
theorem Wz.lst {n m : Nat} {ds : List PyData} (h : WzA n m ds) : Wz n (m + 1) (.list ds) := by
  have := h.bk
  have := h.dp
  exact ⟨by rw [PyData.leavesShort]; exact h.lv, by rw [PyData.showable]; exact h.sh, by rw [PyData.bulk]; omega, by rw [PyData.depth]; omega⟩
theorem Wz.mono {n m n2 m2 : Nat} {d : PyData} (h : Wz n m d) (a : n ≤ n2) (b : m ≤ m2) : Wz n2 m2 d := ⟨h.lv, h.sh, Nat.le_trans h.bk a, Nat.le_trans h.dp b⟩
theorem Wz.shows {n m : Nat} {d : PyData} (h : Wz n m d) (a : n ≤ 2 ^ 20) (b : m ≤ 50) : Shows d := ⟨h.sh, h.lv, Nat.le_trans h.bk a, Nat.le_trans h.dp b⟩
theorem SmD.wz {n m : Nat} {d : PyData} (h : SmD n m d) : Wz n m d := ⟨h.lv, h.sh, h.bk, h.dp⟩
/-- a small atom -/
def AtmS (v : V) : Prop := v = .non ∨ (∃ b, v = .bl b) ∨ (∃ i : Int, v = .int i ∧ -1 ≤ i ∧ i ≤ 3) ∨ ∃ x : Str, v = .str x ∧ x.length ≤ 20 ∧ (PyData.str x).leavesShort 13 = true ∧ PyData.strOk x = true
theorem AtmS.atm {v : V} (h : AtmS v) : Atm v := by
  rcases h with h | h | ⟨i, h, _⟩ | ⟨x, h, _⟩
  · exact .inl h
  · exact .inr (.inl h)
  · exact .inr (.inr (.inl ⟨i, h⟩))
  · exact .inr (.inr (.inr ⟨x, h⟩))
theorem AtmS.wz {v : V} (h : AtmS v) : Wz 20 0 (vD v) := by
  rcases h with rfl | ⟨b, rfl⟩ | ⟨i, rfl, i0, i1⟩ | ⟨x, rfl, hx, lx, _⟩
  · exact ⟨by decide +kernel, by decide +kernel, by decide +kernel, by decide +kernel⟩
  · cases b
    · exact ⟨by decide +kernel, by decide +kernel, by decide +kernel, by decide +kernel⟩
    · exact ⟨by decide +kernel, by decide +kernel, by decide +kernel, by decide +kernel⟩
  · have : i = -1 ∨ i = 0 ∨ i = 1 ∨ i = 2 ∨ i = 3 := by omega
    rcases this with rfl | rfl | rfl | rfl | rfl <;> exact ⟨by decide +kernel, by decide +kernel, by decide +kernel, by decide +kernel⟩
  · refine ⟨lx, by show (PyData.str x).showable = true; simp [PyData.showable], ?_, by show (PyData.str x).depth ≤ 0; simp [PyData.depth]⟩
    show (PyData.str x).bulk ≤ 20
    rw [PyData.bulk]
    exact hx
theorem wz_kv {F : Str → V} : ∀ {ns : List Str}, (∀ n ∈ ns, IsName n ∧ AtmS (F n)) → PyData.leavesShortKv 13 (ns.map fun n => (.str n, vD (F n))) = true ∧ PyData.showableKv (ns.map fun n => (.str n, vD (F n))) = true ∧
    PyData.bulkKv (ns.map fun n => (.str n, vD (F n))) ≤ 40 * ns.length ∧ PyData.depthKv (ns.map fun n => (.str n, vD (F n))) = 0
  | [], _ => by simp [PyData.leavesShortKv, PyData.showableKv, PyData.bulkKv, PyData.depthKv]
  | n :: ns, h => by
    obtain ⟨a, b, c, d⟩ := wz_kv (ns := ns) fun x hx => h x (List.mem_cons_of_mem _ hx)
    obtain ⟨h1, h2⟩ := h n List.mem_cons_self
    have k := SmD.name h1
    have w := h2.wz
    have wd := w.dp
    have wb := w.bk
    have kd := k.dp
    have kb := k.bk
    rw [List.map_cons, PyData.leavesShortKv, PyData.showableKv, PyData.bulkKv, PyData.depthKv, a, b, d, k.lv, k.sh, w.lv, w.sh, List.length_cons]
    refine ⟨rfl, rfl, ?_, ?_⟩
    · omega
    · omega
theorem Wz.dct {F : Str → V} {ns : List Str} (h : ∀ n ∈ ns, IsName n ∧ AtmS (F n)) : Wz (40 * ns.length) 1 (.dict (ns.map fun n => (.str n, vD (F n)))) := by
  obtain ⟨a, b, c, d⟩ := wz_kv h
  exact ⟨by rw [PyData.leavesShort]; exact a, by rw [PyData.showable]; exact b, by rw [PyData.bulk]; omega, by rw [PyData.depth]; omega⟩
end U

/-! a pair not in a tuple of pairs; tuples of numbers in a list; lists of lists of numbers compared and shown -/
namespace U
open PySem PySem.Spec PyProof.Rows L2
end U


/-! k71: _law_random_certificate -/
namespace U
open PySem PySem.Spec PyProof.Rows L2
mutual
/-- data that lies apart from the draws -/
inductive DgN (p : Addr) (H : Hp) : V → PyData → Prop
  | atm {v : V} : Atm v → DgN p H v (vD v)
  | tup {a : Addr} {xs : List V} {ds : List PyData} : H a = some (.tup xs) → DgNAll p H xs ds → DgN p H (.ref a) (.tuple ds)
  | lst {a : Addr} {xs : List V} {ds : List PyData} : a ≠ p → H a = some (.lst xs) → DgNAll p H xs ds → DgN p H (.ref a) (.list ds)
inductive DgNAll (p : Addr) (H : Hp) : List V → List PyData → Prop
  | nil : DgNAll p H [] []
  | cons {v : V} {vs : List V} {d : PyData} {ds : List PyData} : DgN p H v d → DgNAll p H vs ds → DgNAll p H (v :: vs) (d :: ds)
end
section
variable {p : Addr} {H H' : Hp}
mutual
theorem DgN.keep (kt : ∀ a xs, H a = some (.tup xs) → H' a = some (.tup xs)) (kl : ∀ a xs, a ≠ p → H a = some (.lst xs) → H' a = some (.lst xs)) : ∀ {v : V} {d : PyData}, DgN p H v d → DgN p H' v d
  | _, _, .atm h => .atm h
  | _, _, .tup h t => .tup (kt _ _ h) (DgNAll.keep kt kl t)
  | _, _, .lst n h t => .lst n (kl _ _ n h) (DgNAll.keep kt kl t)
theorem DgNAll.keep (kt : ∀ a xs, H a = some (.tup xs) → H' a = some (.tup xs)) (kl : ∀ a xs, a ≠ p → H a = some (.lst xs) → H' a = some (.lst xs)) : ∀ {v : List V} {d : List PyData}, DgNAll p H v d → DgNAll p H' v d
  | _, _, .nil => .nil
  | _, _, .cons h t => .cons (DgN.keep kt kl h) (DgNAll.keep kt kl t)
end
mutual
theorem DgN.dg : ∀ {v : V} {d : PyData}, DgN p H v d → Dg H v d
  | _, _, .atm h => .atm h
  | _, _, .tup h t => .tup h (DgNAll.dg t)
  | _, _, .lst _ h t => .lst h (DgNAll.dg t)
theorem DgNAll.dg : ∀ {v : List V} {d : List PyData}, DgNAll p H v d → DgAll H v d
  | _, _, .nil => .nil
  | _, _, .cons h t => .cons (DgN.dg h) (DgNAll.dg t)
end
theorem DgN.same {v : V} {d : PyData} (h : DgN p H v d) (s : Same H H') : DgN p H' v d := h.keep (fun _ _ => s _ _) fun _ _ _ => s _ _
theorem DgNAll.same {v : List V} {d : List PyData} (h : DgNAll p H v d) (s : Same H H') : DgNAll p H' v d := h.keep (fun _ _ => s _ _) fun _ _ _ => s _ _
theorem DgNAll.append : ∀ {v w : List V} {d e : List PyData}, DgNAll p H v d → DgNAll p H w e → DgNAll p H (v ++ w) (d ++ e)
  | _, _, _, _, .nil, k => k
  | _, _, _, _, .cons h t, k => .cons h (DgNAll.append t k)
theorem DgNAll.reverse : ∀ {v : List V} {d : List PyData}, DgNAll p H v d → DgNAll p H v.reverse d.reverse
  | _, _, .nil => .nil
  | _, _, .cons h t => by
    rw [List.reverse_cons, List.reverse_cons]
    exact (DgNAll.reverse t).append (.cons h .nil)
theorem DgNAll.tail1 : ∀ {v : List V} {d : List PyData}, DgNAll p H v d → DgNAll p H (v.drop 1) (d.drop 1)
  | _, _, .nil => .nil
  | _, _, .cons _ t => t
theorem dgN_strs : ∀ xs : List Str, DgNAll p H (xs.map V.str) (xs.map PyData.str)
  | [] => .nil
  | x :: r => .cons (.atm (.inr (.inr (.inr ⟨_, rfl⟩)))) (dgN_strs r)
end
theorem SmDs.snoc {n m n2 m2 : Nat} {e : PyData} {ds : List PyData} (h : SmDs n m ds) (h2 : SmD n2 m2 e) : SmDs (n + n2 + 1) (m + m2) (ds ++ [e]) := by
  have e1 : ∀ ds : List PyData, PyData.leavesShortAll 13 (ds ++ [e]) = (PyData.leavesShortAll 13 ds && e.leavesShort 13) := by
    intro ds
    induction ds with
    | nil => simp [PyData.leavesShortAll]
    | cons a r ih => rw [List.cons_append, PyData.leavesShortAll, PyData.leavesShortAll, ih, Bool.and_assoc]
  have e2 : ∀ ds : List PyData, PyData.showableAll (ds ++ [e]) = (PyData.showableAll ds && e.showable) := by
    intro ds
    induction ds with
    | nil => simp [PyData.showableAll]
    | cons a r ih => rw [List.cons_append, PyData.showableAll, PyData.showableAll, ih, Bool.and_assoc]
  have e3 : ∀ ds : List PyData, PyData.bulkAll (ds ++ [e]) = PyData.bulkAll ds + (e.bulk + 1) := by
    intro ds
    induction ds with
    | nil => simp [PyData.bulkAll]
    | cons a r ih =>
      rw [List.cons_append, PyData.bulkAll, PyData.bulkAll, ih]
      omega
  have e4 : ∀ ds : List PyData, PyData.depthAll (ds ++ [e]) = max (PyData.depthAll ds) e.depth := by
    intro ds
    induction ds with
    | nil => simp [PyData.depthAll]
    | cons a r ih =>
      rw [List.cons_append, PyData.depthAll, PyData.depthAll, ih]
      omega
  have e5 : ∀ ds : List PyData, PyData.hasDictAll (ds ++ [e]) = (PyData.hasDictAll ds || e.hasDict) := by
    intro ds
    induction ds with
    | nil => simp [PyData.hasDictAll]
    | cons a r ih => rw [List.cons_append, PyData.hasDictAll, PyData.hasDictAll, ih, Bool.or_assoc]
  obtain ⟨a1, a2, a3, a4, a5⟩ := h
  obtain ⟨b1, b2, b3, b4, b5⟩ := h2
  exact ⟨by rw [e1, a1, b1]; rfl, by rw [e2, a2, b2]; rfl, by rw [e3]; omega, by rw [e4]; omega, by rw [e5, a5, b5]; rfl⟩
theorem SmDs.consM {n m n2 : Nat} {d : PyData} {ds : List PyData} (h : SmD n m d) (h2 : SmDs n2 m ds) : SmDs (n + 1 + n2) m (d :: ds) := by
  have k := SmDs.cons h h2
  refine ⟨k.lv, k.sh, k.bk, ?_, k.nd⟩
  have a := h.dp
  have b := h2.dp
  rw [PyData.depthAll]
  omega
theorem SmDs.snocM {n m n2 : Nat} {e : PyData} {ds : List PyData} (h : SmDs n m ds) (h2 : SmD n2 m e) : SmDs (n + n2 + 1) m (ds ++ [e]) := by
  have k := SmDs.snoc h h2
  refine ⟨k.lv, k.sh, k.bk, ?_, k.nd⟩
  have a := h.dp
  have b := h2.dp
  have e4 : ∀ ds : List PyData, PyData.depthAll (ds ++ [e]) = max (PyData.depthAll ds) e.depth := by
    intro ds
    induction ds with
    | nil => simp [PyData.depthAll]
    | cons a r ih =>
      rw [List.cons_append, PyData.depthAll, PyData.depthAll, ih]
      omega
  rw [e4]
  omega
theorem SmDs.le {n m n2 m2 : Nat} {ds : List PyData} (h : SmDs n m ds) (a : n ≤ n2) (b : m ≤ m2) : SmDs n2 m2 ds := ⟨h.lv, h.sh, Nat.le_trans h.bk a, Nat.le_trans h.dp b, h.nd⟩
theorem SmD.strS {s : Str} (h : (PyData.str s).leavesShort 13 = true) (b : (PyData.str s).bulk ≤ 8) : SmD 8 0 (.str s) := ⟨h, by simp [PyData.showable], b, by simp [PyData.depth], by simp [PyData.hasDict]⟩
theorem smw1 : SmD 8 0 (.str "cycle") := .strS (by decide +kernel) (by rw [PyData.bulk]; decide +kernel)
theorem smw2 : SmD 8 0 (.str "node") := .strS (by decide +kernel) (by rw [PyData.bulk]; decide +kernel)
theorem smw3 : SmD 8 0 (.str "path") := .strS (by decide +kernel) (by rw [PyData.bulk]; decide +kernel)
theorem smn : SmD 8 0 .none := ⟨by decide +kernel, by decide +kernel, by decide +kernel, by decide +kernel, by decide +kernel⟩
end U
namespace Law
open PySem PySem.Spec PyProof.Rows L2 U LamX


section
variable {ns : List Str} {p : Addr} {H H' : Hp}
theorem RawO.sm {t : Addr} {pp : List (List Str)} (nm : ∀ x ∈ ns, IsName x) (l : ns.length ≤ 6) (h : RawO ns H t pp) : SmD 10300 8 (datO pp) := by
  have ls : ∀ {n : Nat} {q : List Str}, RawP ns n q → SmD (9 * n) 1 (.list (q.map PyData.str)) := fun r => (SmD.lst (SmDs.names fun x hx => nm x (r.in_ x hx))).mono (Nat.mul_le_mul_left _ r.le) (by omega)
  cases h with
  | cyc a b r => exact (SmD.tup (SmDs.cons smw1 (SmDs.cons (ls r) SmDs.nil))).mono (by omega) (by omega)
  | node a b c d hx r1 r2 => exact (SmD.tup (SmDs.cons smw2 (SmDs.cons (SmD.name (nm _ hx)) (SmDs.cons (SmD.tup (SmDs.cons (ls r1) (SmDs.cons (ls r2) SmDs.nil))) SmDs.nil)))).mono (by omega) (by omega)
  | path a b c d e i j k r r1 r2 r3 r4 => exact (SmD.tup (SmDs.cons smw3 (SmDs.cons (ls r) (SmDs.cons (SmD.tup (SmDs.cons (ls r1) (SmDs.cons (ls r2) SmDs.nil))) (SmDs.cons (SmD.tup (SmDs.cons (ls r3) (SmDs.cons (ls r4) SmDs.nil))) SmDs.nil))))).mono (by omega) (by omega)
theorem TrA.gon {TT : List (Addr × Str)} {T : CT} {v : V} (h : TrA ns (AtP p) H T v) (hp : PoolAt H p) (g : GoN TT p H H') : TrA ns (AtP p) H' T v := by
  refine h.keep (fun a xs h => g.tu hp h) (fun a xs ne h => ?_) (fun a xs nW h => g.li nW h) fun _ z => z
  refine g.li (fun e => ?_) h
  obtain ⟨c, ys, pos, big, seed, h2, _⟩ := hp
  rw [e, h2] at h
  cases xs with
  | nil => exact ne rfl
  | cons x r => cases HO.lst.inj (Option.some.inj h)
theorem cutV_tlJ {xs : List V} : cutV xs (some 1) none = xs.drop 1 := by
  unfold cutV HT.sIx
  simp only
  rw [if_neg (by omega), show (1 : Int).toNat = 1 from rfl]
  by_cases h : 1 ≤ xs.length
  · rw [Nat.min_eq_left h]
    exact List.take_of_length_le (by rw [List.length_drop]; omega)
  · have e : xs = [] := List.eq_nil_of_length_eq_zero (by omega)
    rw [e]
    rfl
theorem RawO.gon {TT : List (Addr × Str)} {t : Addr} {pp : List (List Str)} (h : RawO ns H t pp) (hp : PoolAt H p) (g : GoN TT p H H') : RawO ns H' t pp := by
  refine h.keep (fun a xs h => g.tu hp h) (fun a xs ne h => ?_)
  refine g.li (fun e => ?_) h
  obtain ⟨c, ys, pos, big, seed, h2, _⟩ := hp
  rw [e, h2] at h
  cases xs with
  | nil => exact ne rfl
  | cons x r => cases HO.lst.inj (Option.some.inj h)
theorem DgN.gon {TT : List (Addr × Str)} {v : V} {d : PyData} (h : DgN p H v d) (hp : PoolAt H p) (g : GoN TT p H H') : DgN p H' v d := h.keep (fun _ _ h => g.tu hp h) fun _ _ n h => g.li n h
theorem DgNAll.gon {TT : List (Addr × Str)} {v : List V} {d : List PyData} (h : DgNAll p H v d) (hp : PoolAt H p) (g : GoN TT p H H') : DgNAll p H' v d := h.keep (fun _ _ h => g.tu hp h) fun _ _ n h => g.li n h
theorem sqT_gon {K : PySem.W.Frag} {TT : List (Addr × Str)} {a : Addr} {xs : List V} (h : H a = some (.tup xs)) (hp : PoolAt H p) (g : GoN TT p H H') : H' a = some (.tup xs) := g.tu hp h
end
/-- from H to H' all stays but the draws' source at p, whose cells stay the same -/
structure GoC (T : List (Addr × Str)) (p : Addr) (H H' : Hp) : Prop where
  n : GoN T p H H'
  cell : ∀ c a b d, H' p = some (srcO c a b d) → ∃ a b d, H p = some (srcO c a b d)
section
variable {T : List (Addr × Str)} {p : Addr} {H H1 H' : Hp}
theorem src_cell {c c' : Addr} {a b d a' b' d' : Int} (h1 : H p = some (srcO c a b d)) (h2 : H p = some (srcO c' a' b' d')) : c' = c :=
  V.ref.inj (List.cons.inj (HO.lst.inj (Option.some.inj (h2.symm.trans h1)))).1
theorem GoC.refl (hp : PoolAt H p) (t : Tabs T H) : GoC T p H H := ⟨GoN.refl hp t, fun c a b d e => ⟨a, b, d, e⟩⟩
theorem GoC.trans (a : GoC T p H H1) (b : GoC T p H1 H') : GoC T p H H' := ⟨a.n.trans b.n, fun c x y z e => by
  obtain ⟨x, y, z, e⟩ := b.cell c x y z e
  exact a.cell c x y z e⟩
theorem GoC.of_ext (hp : PoolAt H p) (x : ExtN H H') (t : Tabs T H') : GoC T p H H' := ⟨GoN.of_ext hp x t, fun c a b d e => by
  obtain ⟨c0, xs, a0, b0, d0, h1, _⟩ := hp
  have := src_cell (ExtN.li x h1) e
  subst this
  exact ⟨_, _, _, h1⟩⟩
theorem GoC.of_go (t : Tabs T H) (hp : PoolAt H p) (g : Go p H H') : GoC T p H H' := ⟨GoN.of_go t hp g, fun c a b d e => (g.cell c a b d e).2⟩
theorem GoC.of_same (t : Tabs T H) (hp : PoolAt H p) (s : Same H H') : GoC T p H H' := .of_go t hp (Go.of_same hp s)
theorem GoC.pool (a : GoC T p H H') : PoolAt H' p := a.n.pool
theorem GoC.tabs (a : GoC T p H H') : Tabs T H' := a.n.tabs
theorem GoC.go (a : GoC T p H H1) (g : Go p H1 H') : GoC T p H H' := a.trans (.of_go a.tabs a.pool g)
theorem GoC.same (a : GoC T p H H1) (s : Same H1 H') : GoC T p H H' := a.trans (.of_same a.tabs a.pool s)
theorem GoC.ext (a : GoC T p H H1) (x : ExtN H1 H') (t : Tabs T H') : GoC T p H H' := a.trans (.of_ext a.pool x t)
/-- a thing of one's own is written -/
theorem GoC.write {q : Addr} {u o : HO} (a : GoC T p H H') (hp : PoolAt H p) (fr : H q = none) (np : q ≠ p) (hq : H' q = some u) (u1 : ∀ ps, u ≠ .tbl ps) (u2 : ∀ c x, CodeO c x ≠ u) : GoC T p H (upd H' q o) := by
  obtain ⟨c, xs, x, y, z, h1, h2, ok⟩ := a.pool
  obtain ⟨x0, y0, z0, e0⟩ := a.cell c x y z h1
  obtain ⟨c0, xs0, x1, y1, z1, g1, g2, _⟩ := hp
  have ec := src_cell g1 e0
  subst ec
  have nc : c ≠ q := ne_of_none g2 fr
  have nq : p ≠ q := Ne.symm np
  refine ⟨⟨fun b v nb hb nt => at_upd (ne_of_none hb fr) (a.n.but b v nb hb nt), ⟨c, xs, x, y, z, at_upd nq h1, at_upd nc h2, ok⟩, fun r hr => ?_⟩, fun c' a' b' d' e => a.cell c' a' b' d' ((upd_ne nq).symm.trans e)⟩
  obtain ⟨ps, t1, t2, t3⟩ := a.tabs r hr
  refine ⟨ps, at_upd (fun z => ?_) t1, t2, fun pos cv hc => ?_⟩
  · rw [z, hq] at t1
    exact u1 _ (Option.some.inj t1)
  · obtain ⟨cc, e1, e2⟩ := t3 pos cv hc
    exact ⟨cc, e1, at_upd (fun z => by rw [z, hq] at e2; exact u2 _ _ (Option.some.inj e2).symm) e2⟩
end
/-- with one place hidden -/
abbrev hidJ (H : Hp) (q : Addr) : Hp := upd H q (.tbl #[])
section
variable {ns : List Str} {W : Addr → Prop} {p q : Addr} {H H' : Hp}
theorem hid_t {b : Addr} {xs : List V} (h : hidJ H q b = some (.tup xs)) : b ≠ q ∧ H b = some (.tup xs) := by
  have h : upd H q (.tbl #[]) b = some (.tup xs) := h
  by_cases e : b = q
  · subst e
    rw [upd_same] at h
    cases h
  · rw [upd_ne e] at h
    exact ⟨e, h⟩
theorem hid_l {b : Addr} {xs : List V} (h : hidJ H q b = some (.lst xs)) : b ≠ q ∧ H b = some (.lst xs) := by
  have h : upd H q (.tbl #[]) b = some (.lst xs) := h
  by_cases e : b = q
  · subst e
    rw [upd_same] at h
    cases h
  · rw [upd_ne e] at h
    exact ⟨e, h⟩
/-- what stands in the hidden heap stands where only the hidden place is other -/
theorem TrA.unhid {T : CT} {v : V} (h : TrA ns W (hidJ H q) T v) (k : ∀ b o, b ≠ q → H b = some o → H' b = some o) : TrA ns W H' T v :=
  h.keep (fun a xs h => k _ _ (hid_t h).1 (hid_t h).2) (fun a xs _ h => k _ _ (hid_l h).1 (hid_l h).2) (fun a xs _ h => k _ _ (hid_l h).1 (hid_l h).2) fun _ z => z
theorem DgN.unhid {v : V} {d : PyData} (h : DgN p (hidJ H q) v d) (k : ∀ b o, b ≠ q → H b = some o → H' b = some o) : DgN p H' v d :=
  h.keep (fun a xs h => k _ _ (hid_t h).1 (hid_t h).2) (fun a xs _ h => k _ _ (hid_l h).1 (hid_l h).2)
theorem DgNAll.unhid {v : List V} {d : List PyData} (h : DgNAll p (hidJ H q) v d) (k : ∀ b o, b ≠ q → H b = some o → H' b = some o) : DgNAll p H' v d :=
  h.keep (fun a xs h => k _ _ (hid_t h).1 (hid_t h).2) (fun a xs _ h => k _ _ (hid_l h).1 (hid_l h).2)
theorem hid_k (k : ∀ b o, b ≠ q → H b = some o → H' b = some o) : ∀ b o, b ≠ q → H b = some o → hidJ H' q b = some o := fun b o n h => at_upd n (k b o n h)
/-- what stands where a locked thing is stands with that place hidden -/
theorem TrA.hid_of {T : CT} {v : V} {od : Obj} {u : HO} (h : TrA ns W H T v) (f : H q = some (.frz od u)) : TrA ns W (hidJ H q) T v :=
  h.keep (fun a xs h => at_upd (ne_of h f nofun) h) (fun a xs _ h => at_upd (ne_of h f nofun) h) (fun a xs _ h => at_upd (ne_of h f nofun) h) fun _ z => z
theorem DgN.hid_of {v : V} {d : PyData} {od : Obj} {u : HO} (h : DgN p H v d) (f : H q = some (.frz od u)) : DgN p (hidJ H q) v d :=
  h.keep (fun a xs h => at_upd (ne_of h f nofun) h) (fun a xs _ h => at_upd (ne_of h f nofun) h)
/-- under a relation that keeps lists and tuples -/
theorem TrA.hid_gon {TT : List (Addr × Str)} {od : Obj} {u : HO} {T : CT} {v : V} (h : TrA ns (AtP p) (hidJ H q) T v) (hp : PoolAt (upd H q (.frz od u)) p) (g : GoN TT p (upd H q (.frz od u)) H') : TrA ns (AtP p) (hidJ H' q) T v := by
  have f : H' q = some (.frz od u) := g.but q _ (fun z => by
    obtain ⟨c, xs, x, y, w, h1, _⟩ := hp
    rw [z, upd_same] at h1
    cases h1) upd_same nofun
  have h1 : TrA ns (AtP p) (upd H q (.frz od u)) T v := h.unhid fun b o n h => at_upd n h
  exact (h1.gon hp g).hid_of f
theorem DgNAll.hid_gon {TT : List (Addr × Str)} {od : Obj} {u : HO} {v : List V} {d : List PyData} (h : DgNAll p (hidJ H q) v d) (hp : PoolAt (upd H q (.frz od u)) p) (g : GoN TT p (upd H q (.frz od u)) H') : DgNAll p (hidJ H' q) v d := by
  have f : H' q = some (.frz od u) := g.but q _ (fun z => by
    obtain ⟨c, xs, x, y, w, h1, _⟩ := hp
    rw [z, upd_same] at h1
    cases h1) upd_same nofun
  have h1 : DgNAll p (upd H q (.frz od u)) v d := DgNAll.unhid h fun b o n h => at_upd n h
  exact (DgNAll.gon h1 hp g).keep (fun a xs h => at_upd (ne_of h f nofun) h) (fun a xs _ h => at_upd (ne_of h f nofun) h)
end
section
variable {P : Program} {w : World} {K : PySem.W.Frag} {mg : Str → Option Value} {base : Heap}
end
end Law


/-! k54: _law_steps, _law_is_certificate_path, _law_component_of, _law_bound, _law_is_branch -/
namespace U
open PySem PySem.Spec PyProof.Rows L2
theorem sr_con {es : List (Str × Str)} {x y : Str} : SR (Adj es) x y ↔ Con es x y := by
  constructor
  · intro h
    induction h with
    | refl => exact .refl
    | step _ s ih => exact Reach.trans ih (.step .refl (nbS_mem.mpr s) rfl)
  · intro h
    induction h with
    | refl => exact .refl
    | step _ m _ ih => exact .step ih (nbS_mem.mp m)
theorem st_sum {f : Str → Int} {dir : Int} (hd : dir = 1 ∨ dir = -1) : ∀ {p : List Str}, stN f dir p ≤ p.length - 1 ∧ (stN f dir p = p.length - 1 ↔ psum f p = dir * (p.length - 1 : Nat))
  | [] => ⟨Nat.le_refl _, fun _ => by show (0 : Int) = dir * 0; omega, fun _ => rfl⟩
  | [a] => ⟨Nat.le_refl _, fun _ => by show (0 : Int) = dir * 0; omega, fun _ => rfl⟩
  | a :: b :: r => by
    obtain ⟨h1, h2⟩ := st_sum (f := f) hd (p := b :: r)
    have h := psum_lim (f := f) (p := b :: r)
    have e : psum f (a :: b :: r) = slp f a b + psum f (b :: r) := by
      unfold psum
      rw [psl, List.sum_cons]
    have s : slp f a b = 1 ∨ slp f a b = -1 := slp_pm f a b
    have l : ((a :: b :: r).length - 1 : Nat) = (b :: r).length - 1 + 1 := by simp
    have e2 : stN f dir (a :: b :: r) = (if slp f a b = dir then 1 else 0) + stN f dir (b :: r) := rfl
    rw [e, l, e2]
    generalize stN f dir (b :: r) = N at *
    generalize psum f (b :: r) = S at *
    generalize (b :: r).length - 1 = L at *
    generalize slp f a b = sl at *
    split
    · rename_i c
      refine ⟨by omega, ?_⟩
      rcases hd with rfl | rfl <;> constructor <;> intro z <;> omega
    · rename_i c
      refine ⟨by omega, ?_⟩
      rcases hd with rfl | rfl <;> constructor <;> intro z <;> omega
end U
namespace Law
open PySem PySem.Spec PyProof.Rows L2 U LamX


/-- a bound with paths that are no mere data -/
def BdR (ns : List Str) : Option Bd → Prop
  | none => True
  | some b => RawP ns 1000 b.p ∧ ∀ q, b.c = some q → RawP ns 1000 q.1 ∧ RawP ns 1000 q.2
mutual
def BrT.raw (ns : List Str) : BrT → Prop
  | .odd _ => True
  | .node _ lo hi bs => BdR ns lo ∧ BdR ns hi ∧ BrT.raws ns bs
def BrT.raws (ns : List Str) : List BrT → Prop
  | [] => True
  | t :: r => BrT.raw ns t ∧ BrT.raws ns r
end
theorem raws_at {ns : List Str} : ∀ {bs : List BrT}, BrT.raws ns bs → ∀ t ∈ bs, BrT.raw ns t
  | [], _, t, h => nomatch h
  | a :: r, h, t, ht => by
    simp only [BrT.raws] at h
    rcases List.mem_cons.mp ht with rfl | ht
    · exact h.1
    · exact raws_at h.2 t ht
theorem raws_of {ns : List Str} : ∀ {bs : List BrT}, (∀ t ∈ bs, BrT.raw ns t) → BrT.raws ns bs
  | [], _ => by simp only [BrT.raws]
  | a :: r, h => by
    simp only [BrT.raws]
    exact ⟨h a List.mem_cons_self, raws_of fun t ht => h t (List.mem_cons_of_mem _ ht)⟩
def spStp : Sp := fun vs H Q _ => ∃ (g n e st pl : Addr) (dir : Int) (ns ord p : List Str) (es : List (Addr × Str × Str)) (f : Str → Int), vs = [.ref st, .ref pl, .int dir] ∧ GSt H g n e st ns ord es f ∧ H pl = some (.lst (p.map V.str)) ∧ RawP ns 1000 p ∧
  ∀ (l : Addr) (js : List Int) (H' : Hp), Same H H' → H' l = some (.lst (js.map V.int)) → js.length = stN f dir p → Q (.ref l) H'
def spCmp54 : Sp := fun vs H Q _ => ∃ (g n e : Addr) (x : Str) (ns : List Str) (es : List (Addr × Str × Str)), vs = [.ref g, .str x] ∧ GrS H g n e ns es ∧ x ∈ ns ∧
  ∀ (l : Addr) (ys : List Str) (H' : Hp), Same H H' → H' l = some (.lst (ys.map V.str)) → (∀ y, y ∈ ys ↔ Con (es.map (·.2)) x y) → Q (.ref l) H'
def spBndL (K : PySem.W.Frag) : Sp := fun vs H Q _ => ∃ (dp g n e st kd fr ps : Addr) (v : V) (b : Option Bd) (x : Str) (dir : Int) (ns ord pn ks frs : List Str) (es : List (Addr × Str × Str)) (f k : Str → Int), vs = [.ref g, .ref st, v, .str x, .ref kd, .ref fr, .ref ps, .int dir] ∧ (dir = 1 ∨ dir = -1) ∧ GSt H g n e st ns ord es f ∧ DgN dp H v (datBd b) ∧ BdR ns b ∧ H kd = some (.dK (kvF ks k)) ∧ H fr = some (.lst (frs.map V.str)) ∧ frs.length ≤ 1000 ∧ SqT K H ps (pn.map V.str) ∧ ∀ H' : Hp, Same H H' → Q (oI (bndN ns (es.map (·.2)) f pn (fcQ ns (es.map (·.2)) f pn) ks k frs x dir b)) H'
def spIsBrL (K : PySem.W.Frag) (m : Nat) : Sp := fun vs H Q _ => ∃ (dp g n e st wd kd fr ps : Addr) (v : V) (T : BrT) (ns ord ws pn ks frs : List Str) (es : List (Addr × Str × Str)) (f w k : Str → Int), vs = [.ref g, .ref st, .ref wd, v, .ref kd, .ref fr, .ref ps] ∧ BrSt K H g n e st wd kd fr ps ns ord ws pn ks frs es f w k ∧ ks.length + m ≤ 10 ∧ frs.length + m ≤ 90 ∧ DgN dp H v (datT T) ∧ T.ok ∧ BrT.raw ns T ∧ T.dp ≤ m ∧ (∀ x ∈ ws, x ∈ ns) ∧
  ∀ (b : Bool) (H' : Hp), Same H H' → (b = true ↔ brP ns (es.map (·.2)) f pn (fcQ ns (es.map (·.2)) f pn) ws w ks k frs T) → Q (.bl b) H'
section
variable {P : Program} {w : World} {K : PySem.W.Frag} {mg : Str → Option Value} {base : Heap}
structure ZFa (P : Program) (w : World) (K : PySem.W.Frag) (mg : Str → Option Value) (base : Heap) : Prop where
  _law_slope_of : Cal P w K mg base CX0 1 "_law_slope_of" spSlJ
theorem ok_stp {f : Addr} {fd : FuncData} (F : Fun K "_law_steps" "_law_steps" s__law_steps f fd) (B : Bt mg) (C : ZFa P w K mg base) : FnG P w K mg base CX0 2 f fd ["_law_state", "_law_path", "_law_direction"] spStp := by
  refine fnG0 F sc__law_steps (fun vs H Q E h => ?_) (fun cdv A outer s H vs Q E hr h => ?_)
  · obtain ⟨g, n, e, st, pl, dir, ns, ord, p, es, f, rfl, _⟩ := h
    rfl
  · obtain ⟨g, n, e, st, pl, dir, ns, ord, p, es, f, rfl, gs, hpl, ⟨p1, p2, p3⟩, q⟩ := h
    have nd := sc__law_steps.nd
    have hu := hr.u1
    refine ⟨_, (pss_one (ps_ret (pe_lc (own := [("_law_at", 3)]) rfl nd (pi_range1 rfl B.range (pa_cons (pe_op uSub (pe_callB (kLen K rfl) (by rfl) B.len bb_len (pa_cons (pv 1) pa_nil)) pe_int) pa_nil)) (blkOk_by (own := [("_law_at", 3)]) (N := nN__law_steps) (sc := defScope s__law_steps) (by decide +kernel)) (fun _ _ _ _ _ => (pg_name (i := 3) nd rfl (by first | exact Or.inl rfl | exact Or.inr rfl))) (fun _ _ _ _ _ => (pts_one (pt_cmpR (kEq K rfl hr.u64) (pe_c C._law_slope_of hr (by decide) rfl (pa_cons (pv 0) (pa_cons (pe_ix (kIx K rfl) (pv 1) (pv 3) (fun _ _ => rfl)) (pa_cons (pe_ix (kIx K rfl) (pv 1) (pe_op (kAdd K rfl) (pv 3) pe_int) (fun _ _ => rfl)) pa_nil)))) (pv 2) (nomark _)))) (fun _ _ _ _ _ => (pv 3))))), ?_⟩
    wtm_at "rd"
    refine rd_lenL (SqL.of hpl) ?_
    rw [List.length_map]
    wtm_at "rd"
    intro D fD
    have lp : ((p.length : Int) - 1 - 0).toNat = p.length - 1 := by omega
    refine lcR (fun i H' => ∃ js : List Int, Same H H' ∧ H' D = some (.lst (js.map V.int)) ∧ js.length = U.stK f dir p i) ⟨[], Same.new fD, upd_same, rfl⟩ ?_ ?_
    · rintro i H' hi ⟨js, s, hD, jl⟩
      have hi1 : i + 1 < p.length := by omega
      have hpL := s _ _ hpl
      have e0 : (0 + (i : Int)) = (i : Int) := Int.zero_add _
      have jb : U.stK f dir p i ≤ i := by
        unfold U.stK
        exact Nat.le_trans (List.length_filter_le _ _) (by rw [List.length_range]; exact Nat.le_refl _)
      try rw [e0]
      rw [stK_succ hi1]
      have m1 := p3 _ (List.getElem_mem (by omega : i < p.length))
      have m2 := p3 _ (List.getElem_mem hi1)
      wtm_at "rd"
      refine rd_ixL (SqL.of hpL) (atI_nat (v := .str p[i]) (by rw [List.getElem?_map, List.getElem?_eq_getElem (by omega)]; rfl)) ?_
      wtm_at "rd"
      refine rd_ixL (SqL.of hpL) (v := .str p[i + 1]) (by
        rw [show ((i : Int) + 1) = ((i + 1 : Nat) : Int) from by omega]
        exact atI_nat (by rw [List.getElem?_map, List.getElem?_eq_getElem hi1]; rfl)) ?_
      wtm_at "rd"
      refine ⟨g, n, e, st, p[i], p[i + 1], ns, ord, es, f, rfl, gs.same s, m1, m2, ?_⟩
      wtm_at "rd"
      refine rd_split (fun c2 => ?_) (fun c2 => ?_)
      · rw [if_pos c2]
        wtm_at "rd"
        refine rd_acc hD (by rw [List.length_map]; omega) ?_
        refine ⟨js ++ [(i : Int)], same_put s fD, ?_, by rw [List.length_append, jl]; rfl⟩
        rw [upd_same, List.map_append]
        rfl
      · rw [if_neg c2]
        exact ⟨js, s, hD, by omega⟩
    rintro H2 ⟨js, s2, hD, jl⟩
    have jl : js.length = stN f dir p := by
      rw [← stK_all, jl]
      congr 1
      omega
    exact q D js H2 s2 hD jl
structure ZFb (P : Program) (w : World) (K : PySem.W.Frag) (mg : Str → Option Value) (base : Heap) : Prop where
  _law_is_path : Cal P w K mg base CX0 1 "_law_is_path" spPaJ
  _law_steps : Cal P w K mg base CX0 2 "_law_steps" spStp
theorem ok_cp54 {f : Addr} {fd : FuncData} (F : Fun K "_law_is_certificate_path" "_law_is_certificate_path" s__law_is_certificate_path f fd) (B : Bt mg) (C : ZFb P w K mg base) : FnG P w K mg base CX0 3 f fd ["_law_graph", "_law_state", "_law_path", "_law_node", "_law_direction", "_law_pins"] (spCpJ K) := by
  refine fnG0 F sc__law_is_certificate_path (fun vs H Q E h => ?_) (fun cdv A outer s H vs Q E hr h => ?_)
  · obtain ⟨g, n, e, st, pl, ps, x, dir, ns, ord, pn, p, es, f, rfl, _⟩ := h
    rfl
  · obtain ⟨g, n, e, st, pl, ps, x, dir, ns, ord, pn, p, es, f, rfl, hd, gs, hpl, rp, hps, q⟩ := h
    have nd := sc__law_is_certificate_path.nd
    have hu := hr.u1
    refine ⟨_, (pss_cons (ps_if (PW.pt (pw_or (pt_not (pt_val (pe_c C._law_is_path hr (by decide) rfl (pa_cons (pv 0) (pa_cons (pv 2) pa_nil))))) (pw_or1 (pt_cmpR (kNe K rfl hr.u64) (pe_ix (kIx K rfl) (pv 2) pe_int (fun _ _ => rfl)) (pv 3) (nomark _))))) (pss_one (ps_ret pe_bl)) pss_nil)
  (pss_cons (ps_if (pt_cmpR (kNe K rfl hr.u64) (pe_callB (kLen K rfl) (by rfl) B.len bb_len (pa_cons (pe_c C._law_steps hr (by decide) rfl (pa_cons (pv 1) (pa_cons (pv 2) (pa_cons (pv 4) pa_nil)))) pa_nil)) (pe_op uSub (pe_callB (kLen K rfl) (by rfl) B.len bb_len (pa_cons (pv 2) pa_nil)) pe_int) (nomark _)) (pss_one (ps_ret pe_bl)) pss_nil)
  (pss_one (ps_ret (pe_or (pe_cmpR (kIn K rfl) (pe_ix (kIx K rfl) (pv 2) (pe_un un_neg pe_int) (fun _ _ => rfl)) (pv 5) rfl) (pe_one (pe_cmpR (kIn K rfl) (pe_ix (kIx K rfl) (pv 2) (pe_un un_neg pe_int) (fun _ _ => rfl)) (pe_slice (kSl K rfl) (pv 2) po_none (po_some (pe_un un_neg pe_int))) rfl))))))), ?_⟩
    have pth : ∀ {p2 : List Str}, pathD ns (es.map (·.2)) (.list (p.map PyData.str)) = some p2 → p2 = p ∧ Wk (es.map (·.2)) p := fun h => by
      obtain ⟨e, _, _, _, wk⟩ := pathD_some.mp h
      have e := PyData.list.inj e
      have := (List.map_inj_right fun a b h => PyData.str.inj h).mp e
      subst this
      exact ⟨rfl, wk⟩
    wtm_at "rd"
    refine ⟨g, n, e, pl, ns, p, es, rfl, gs.grs, hpl, rp, fun b0 H1 s1 hb => ?_⟩
    wtm_at "rd"
    cases b0 with
    | false =>
      wtm_at "rd"
      exact q false H1 s1 ⟨nofun, fun ⟨p2, h, _⟩ => nomatch hb.mpr (pth h).2⟩
    | true =>
    have wk := hb.mp rfl
    have hpd : pathD ns (es.map (·.2)) (.list (p.map PyData.str)) = some p := pathD_some.mpr ⟨rfl, rp.pos, rp.le, rp.in_, wk⟩
    have only : ∀ {X : Prop}, (p.head? = some x → SlP (es.map (·.2)) f dir p → (∃ y, p.getLast? = some y ∧ (y ∈ pn ∨ y ∈ p.dropLast)) → X) → cerD ns (es.map (·.2)) f pn dir x (.list (p.map PyData.str)) → X := fun k ⟨p2, h, a, b, c⟩ => by
      rw [hpd] at h
      cases h
      exact k a b c
    obtain ⟨x0, hd0, _⟩ := head_ofD rp.pos
    obtain ⟨y, la, _⟩ := last_ofD rp.pos
    have pp := rp.pos
    wtm_at "rd"
    refine rd_ixL (SqL.of (s1 _ _ hpl)) (v := .str x0) (atI_hd hd0) ?_
    wtm_at "rd"
    refine rd_nsplit (fun c0 => ?_) (fun c0 => ?_)
    · wtm_at "rd"
      refine q false H1 s1 ⟨nofun, only fun h _ _ => ?_⟩
      rw [hd0] at h
      cases h
      exact absurd rfl c0
    have c0 : x0 = x := c0
    subst c0
    wtm_at "rd"
    refine ⟨g, n, e, st, pl, dir, ns, ord, p, es, f, rfl, gs.same s1, s1 _ _ hpl, rp, fun l js H2 s2 hl jl => ?_⟩
    have sX := s1.trans s2
    wtm_at "rd"
    refine rd_lenL (SqL.of hl) ?_
    rw [List.length_map, jl]
    wtm_at "rd"
    refine rd_lenL (SqL.of (sX _ _ hpl)) ?_
    rw [List.length_map]
    wtm_at "rd"
    have sle := (sl_sum (f := f) hd wk).trans (st_sum hd).2.symm
    refine rd_nsplit (fun c1 => ?_) (fun c1 => ?_)
    · wtm_at "rd"
      exact q false H2 sX ⟨nofun, only fun _ h _ => absurd (sle.mp h) (fun z => c1 (by omega))⟩
    have sl := sle.mpr (by
      have c1 : ((stN f dir p : Nat) : Int) = (p.length : Int) - 1 := c1
      omega)
    have ye : cerD ns (es.map (·.2)) f pn dir x0 (.list (p.map PyData.str)) ↔ (y ∈ pn ∨ y ∈ p.dropLast) := ⟨only fun _ _ ⟨z, l2, a⟩ => by
      rw [la] at l2
      cases l2
      exact a, fun a => ⟨p, hpd, hd0, sl, y, la, a⟩⟩
    wtm_at "rd"
    refine rd_ixL (SqL.of (sX _ _ hpl)) (v := .str y) (atI_la la) ?_
    wtm_at "rd"
    refine rd_inST (Same.seqT sX hps) ?_
    wtm_at "rd"
    refine rd_split (fun c1 => ?_) (fun c1 => ?_)
    · exact q true H2 sX ⟨fun _ => ye.mpr (.inl c1), fun _ => rfl⟩
    · wtm_at "rd"
      refine rd_ixL (SqL.of (sX _ _ hpl)) (v := .str y) (atI_la la) ?_
      wtm_at "rd"
      refine rd_slL (SqL.of (sX _ _ hpl)) ?_
      rw [cutV_dl, ← List.map_dropLast]
      intro t ft
      have k := Same.new (o := .lst (p.dropLast.map V.str)) ft
      refine rd_inSL (SqL.of upd_same) ?_
      refine q _ _ (sX.trans k) ?_
      rw [decide_eq_true_iff, ye]
      exact ⟨.inr, fun z => z.resolve_left c1⟩
theorem ok_cmp54 {f : Addr} {fd : FuncData} (F : Fun K "_law_component_of" "_law_component_of" s__law_component_of f fd) (B : Bt mg) : FnG P w K mg base CX0 1 f fd ["_law_graph", "_law_node"] spCmp54 := by
  refine fnG0 F sc__law_component_of (fun vs H Q E h => ?_) (fun cdv A outer s H vs Q E hr h => ?_)
  · obtain ⟨g, n, e, x, ns, es, rfl, _⟩ := h
    rfl
  · have hu65 : (A.deeper (envOfC "_law_component_of" (defScope s__law_component_of) s.heap.objs.size f cdv)).units + 65 < cLine := by
      have := hr.u100
      omega
    obtain ⟨g, n, e, x, ns, es, rfl, gs, hx, q⟩ := h
    have nd := sc__law_component_of.nd
    have hu := hr.u1
    refine ⟨_, (pss_cons (ps_set (i := 2) nd rfl (by first | exact Or.inl rfl | exact Or.inr rfl) (pe_lst (pa_cons (pv 1) pa_nil)))
  (pss_cons (ps_set (i := 3) nd rfl (by first | exact Or.inl rfl | exact Or.inr rfl) pe_int)
  (pss_cons (ps_while PassesOwn.never (pt_cmpR uLt (pv 3) (pe_callB (kLen K rfl) (by rfl) B.len bb_len (pa_cons (pv 2) pa_nil)) (nomark _)) (pss_cons (ps_set (i := 4) nd rfl (by first | exact Or.inl rfl | exact Or.inr rfl) (pe_ix (kIx K rfl) (pv 2) (pv 3) (fun _ _ => rfl)))
  (pss_cons (ps_set (i := 2) nd rfl (by first | exact Or.inl rfl | exact Or.inr rfl) (pe_op (kAdd K rfl) (pv 2) (pe_lc (own := [("_law_one", 5)]) rfl nd (ki_tup K rfl (pe_ix (kIx K rfl) (pv 0) pe_int (fun _ _ => rfl))) (blkOk_by (own := [("_law_one", 5)]) (N := nN__law_component_of) (sc := defScope s__law_component_of) (by decide +kernel)) (fun _ _ _ _ _ => (pg_name (i := 5) nd rfl (by first | exact Or.inl rfl | exact Or.inr rfl))) (fun _ _ _ _ _ => (pts_one (PW.pt (pw_and (pt_cmpR (kInT K rfl hu65) (pe_callTy (kTuple K rfl) (by rfl) B.tuple bb_tuple (pa_cons (pe_callB (kSorted K rfl hr.u64) (by rfl) B.sorted bb_sorted (pa_cons (pe_lst (pa_cons (pv 5) (pa_cons (pv 4) pa_nil))) pa_nil)) pa_nil)) (pe_ix (kIx K rfl) (pv 0) pe_int (fun _ _ => rfl)) rfl) (pw_and1 (pt_cmpR (kNotIn K rfl) (pv 5) (pv 2) rfl)))))) (fun _ _ _ _ _ => (pv 5)))))
  (pss_one (ps_set (i := 3) nd rfl (by first | exact Or.inl rfl | exact Or.inr rfl) (pe_op (kAdd K rfl) (pv 3) pe_int))))))
  (pss_one (ps_ret (pv 2)))))), ?_⟩
    have gok := gs.ok
    have sok : ∀ x ∈ ns, PyData.strOk x = true := fun x hx => (gs.ok.names.ok x hx).sok
    have l100 := gs.l2
    wtm_at "rd"
    intro k fk
    have s1 := Same.new (o := .lst [.str x]) fk
    have hk1 := @upd_same H k (.lst [.str x])
    generalize upd H k (.lst [.str x]) = H1 at s1 hk1
    have w0 : Wlk (Adj (es.map (·.2))) (fun z => z = x) ns [x] 0 := ⟨List.nodup_cons.mpr ⟨List.not_mem_nil, List.nodup_nil⟩, fun y hy => by rw [List.mem_singleton.mp hy]; exact hx, fun y hy => ⟨x, rfl, by rw [List.mem_singleton.mp hy]; exact .refl⟩, fun z hz => by rw [hz]; exact List.mem_cons_self, fun j hj => absurd hj (Nat.not_lt_zero _), Nat.zero_le _⟩
    wtm_at "rd"
    refine ⟨fun m σ H' => ∃ (i : Nat) (k : Addr) (xs : List Str) (u4 u5 : Option V), m = ns.length + 1 - i ∧ σ = [some (.ref g), some (.str x), some (.ref k), some (.int i), u4, u5] ∧ Same H H' ∧ H' k = some (.lst (xs.map V.str)) ∧ Wlk (Adj (es.map (·.2))) (fun z => z = x) ns xs i, ⟨_, 0, k, [x], _, _, rfl, rfl, s1, hk1, w0⟩, ?_⟩
    rintro m σ H2 ⟨i, k, xs, u4, u5, rfl, rfl, s2, hk2, w⟩
    have wl := w.len
    wtm_at "rd"
    refine rd_lenL (SqL.of hk2) ?_
    rw [List.length_map]
    wtm_at "rd"
    refine rd_split (fun c0 => ?_) (fun c0 => ?_)
    · have hi : i < xs.length := by omega
      refine ⟨fun σ' H' => ∃ (k : Addr) (xs : List Str) (u4 u5 : Option V), σ' = [some (.ref g), some (.str x), some (.ref k), some (.int (i + 1 : Nat)), u4, u5] ∧ Same H H' ∧ H' k = some (.lst (xs.map V.str)) ∧ Wlk (Adj (es.map (·.2))) (fun z => z = x) ns xs (i + 1), fun σ' H' ⟨k, xs, u4, u5, h1, h2, h4, h5⟩ => ⟨ns.length + 1 - (i + 1), by omega, i + 1, k, xs, u4, u5, rfl, h1, h2, h4, h5⟩, ?_⟩
      have hc : xs[i]? = some xs[i] := List.getElem?_eq_getElem hi
      have cin : xs[i] ∈ ns := w.sub _ (List.getElem_mem hi)
      wtm_at "rd"
      refine rd_ixL (SqL.of hk2) (atI_nat (v := .str xs[i]) (by rw [List.getElem?_map, hc]; rfl)) ?_
      generalize xs[i] = c at *
      wtm_at "rd"
      refine rd_ixT (SqT.of (s2 _ _ gs.gr.top)) (v := .ref n) rfl ?_
      refine rd_forT (SqT.of (s2 _ _ gs.gr.nodes)) ?_
      intro D fD
      refine lcT (K := K) (xs := ns.map V.str) (fun j H' => Same H2 H' ∧ H' D = some (.lst (((ns.take j).filter fun o => decide (eOf o c ∈ es.map (·.2) ∧ o ∉ xs)).map V.str))) ⟨Same.new fD, upd_same⟩ ?_ ?_ ?_
      · rintro j H' hj ⟨s, _⟩
        exact SqT.of (s _ _ (s2 _ _ gs.gr.nodes))
      · rintro j y H' hy ⟨s, hD⟩
        obtain ⟨hj, rfl⟩ := map_at hy
        have len : ((ns.take j).filter fun o => decide (eOf o c ∈ es.map (·.2) ∧ o ∉ xs)).length ≤ 100 := Nat.le_trans (List.length_filter_le _ _) (by rw [List.length_take]; omega)
        rw [take_snoc hj, List.filter_append, List.map_append]
        have oin : ns[j] ∈ ns := List.getElem_mem hj
        generalize ns[j] = o at *
        wtm_at "rd"
        intro t1 ft1
        have k1 := Same.new (o := .lst [.str o, .str c]) ft1
        refine rd_sortS (xs := [o, c]) (SqL.of upd_same) (by show 2 ≤ 100000; decide) ?_
        intro ys py sy t2 ft2
        have k2 := Same.new (o := .lst (ys.map V.str)) ft2
        wtm_at "rd"
        refine rd_tupleL (SqL.of upd_same) ?_
        intro t3 ft3
        have k3 := Same.new (o := .tup (ys.map V.str)) ft3
        have sA := (k1.trans k2).trans k3
        have h3 := @upd_same (upd (upd H' t1 (.lst [.str o, .str c])) t2 (.lst (ys.map V.str))) t3 (.tup (ys.map V.str))
        generalize upd (upd (upd H' t1 (.lst [.str o, .str c])) t2 (.lst (ys.map V.str))) t3 (.tup (ys.map V.str)) = Ha at sA h3
        rw [sort2gS py sy] at h3
        have hD := sA _ _ hD
        have s := s.trans sA
        have gsA := gs.same (s2.trans s)
        wtm_at "rd"
        refine rd_ixT (SqT.of gsA.gr.top) (v := .ref e) rfl ?_
        refine rd_inTE (e := eOf o c) (SqT.of h3) (SqT.of gsA.gr.edges) (fun x hx => SqT.of (gsA.gr.pairs x hx)) (by
          rcases eOf_cases o c with z | z <;> rw [z]
          · exact ⟨sok _ oin, sok _ cin⟩
          · exact ⟨sok _ cin, sok _ oin⟩) (fun x hx => ⟨sok _ (gs.ok.mem x hx).1, sok _ (gs.ok.mem x hx).2⟩) ?_
        have skip : ¬ (eOf o c ∈ es.map (·.2) ∧ o ∉ xs) → Ha D = some (.lst (((ns.take j).filter fun o => decide (eOf o c ∈ es.map (·.2) ∧ o ∉ xs)).map V.str ++ ([o].filter fun o => decide (eOf o c ∈ es.map (·.2) ∧ o ∉ xs)).map V.str)) := fun z => by
          rw [show ([o].filter fun o => decide (eOf o c ∈ es.map (·.2) ∧ o ∉ xs)) = [] from by rw [List.filter_cons, decide_eq_false z]; rfl, List.map_nil, List.append_nil]
          exact hD
        wtm_at "rd"
        refine rd_split (fun c1 => ?_) (fun c1 => ?_)
        · wtm_at "rd"
          refine rd_ninSL (SqL.of (s _ _ hk2)) ?_
          wtm_at "rd"
          refine rd_nsplit (fun c2 => ?_) (fun c2 => ?_)
          · wtm_at "rd"
            refine rd_acc hD (by rw [List.length_map]; omega) ?_
            refine ⟨same_put s fD, ?_⟩
            rw [upd_same, List.filter_cons, decide_eq_true (show eOf o c ∈ es.map (·.2) ∧ o ∉ xs from ⟨c1, c2⟩)]
            rfl
          · exact ⟨s, skip fun z => z.2 c2⟩
        · exact ⟨s, skip fun z => c1 z.1⟩
      rintro H4 ⟨s4, hD⟩
      rw [List.length_map, List.take_length] at hD
      have len : (ns.filter fun o => decide (eOf o c ∈ es.map (·.2) ∧ o ∉ xs)).length ≤ 100 := Nat.le_trans (List.length_filter_le _ _) (by omega)
      have adj : ∀ o, eOf o c ∈ es.map (·.2) ↔ Adj (es.map (·.2)) c o := fun o => ⟨fun h => by
        rcases eOf_cases o c with z | z <;> rw [z] at h
        · exact .inr h
        · exact .inl h, fun h => adj_eOf gok.lt h.symm⟩
      refine rd_catL (s4 _ _ hk2) hD (by rw [List.length_map, List.length_map]; omega) ?_
      intro k2 fk2
      have s5 := Same.new (o := .lst (xs.map V.str ++ (ns.filter fun o => decide (eOf o c ∈ es.map (·.2) ∧ o ∉ xs)).map V.str)) fk2
      have hk5 := @upd_same H4 k2 (.lst (xs.map V.str ++ (ns.filter fun o => decide (eOf o c ∈ es.map (·.2) ∧ o ∉ xs)).map V.str))
      have s24 := s2.trans s4
      wtm_at "rd"
      refine ⟨k2, xs ++ ns.filter (fun o => decide (eOf o c ∈ es.map (·.2) ∧ o ∉ xs)), _, _, rfl, s24.trans s5, by rw [hk5, List.map_append], w.turn hc ?_ (fun y hy => ?_) (fun y hy => ?_) (fun o so => ?_)⟩
      · rw [List.nodup_append]
        exact ⟨w.nd, gs.nd.filter _, fun a ha b hb e => by
          have := (of_decide_eq_true (List.mem_filter.mp hb).2).2
          rw [← e] at this
          exact this ha⟩
      · exact (List.mem_filter.mp hy).1
      · exact (adj y).mp (of_decide_eq_true (List.mem_filter.mp hy).2).1
      · by_cases z : o ∈ xs
        · exact List.mem_append_left _ z
        · exact List.mem_append_right _ (List.mem_filter.mpr ⟨nbS_in gok (nbS_mem.mpr so), decide_eq_true ⟨(adj o).mpr so, z⟩⟩)
    · wtm_at "rd"
      exact q k xs H2 s2 hk2 fun y => by
        rw [w.all (by omega)]
        exact ⟨fun ⟨z, e, r⟩ => by rw [← e]; exact sr_con.mp r, fun r => ⟨x, rfl, sr_con.mpr r⟩⟩
end
end Law


/-! k54: _law_bound, _law_is_branch -/
namespace U
open PySem PySem.Spec PyProof.Rows L2
section
variable {p : Addr} {H : Hp}
mutual
theorem DgN.dp {K : PySem.W.Frag} : ∀ {v : V} {d : PyData}, DgN p H v d → Dp K H v d
  | _, _, .atm (.inl e) => by subst e; exact .non
  | _, _, .atm (.inr (.inl ⟨b, e⟩)) => by subst e; exact .bl b
  | _, _, .atm (.inr (.inr (.inl ⟨i, e⟩))) => by subst e; exact .int i
  | _, _, .atm (.inr (.inr (.inr ⟨x, e⟩))) => by subst e; exact .str x
  | _, _, .tup h t => .tup (SqT.of h) (DgNAll.dp t)
  | _, _, .lst _ h t => .lst (SqL.of h) (DgNAll.dp t)
theorem DgNAll.dp {K : PySem.W.Frag} : ∀ {v : List V} {d : List PyData}, DgNAll p H v d → DpAll K H v d
  | _, _, .nil => .nil
  | _, _, .cons h t => .cons (DgN.dp h) (DgNAll.dp t)
end
theorem vD_atm {v : V} {d : PyData} (h : vD v = d) : (∀ ds, d ≠ .tuple ds) ∧ (∀ ds, d ≠ .list ds) := by
  subst h
  cases v <;> exact ⟨nofun, nofun⟩
theorem dgN_tup {v : V} {ds : List PyData} (h : DgN p H v (.tuple ds)) : ∃ a xs, v = .ref a ∧ H a = some (.tup xs) ∧ DgNAll p H xs ds := by
  generalize e : PyData.tuple ds = d at h
  cases h with
  | atm a => exact absurd rfl ((vD_atm e.symm).1 ds)
  | tup a b =>
    cases e
    exact ⟨_, _, rfl, a, b⟩
  | lst a b c => cases e
theorem dgN_lst {v : V} {ds : List PyData} (h : DgN p H v (.list ds)) : ∃ a xs, v = .ref a ∧ a ≠ p ∧ H a = some (.lst xs) ∧ DgNAll p H xs ds := by
  generalize e : PyData.list ds = d at h
  cases h with
  | atm a => exact absurd rfl ((vD_atm e.symm).2 ds)
  | tup a b => cases e
  | lst a b c =>
    cases e
    exact ⟨_, _, rfl, a, b, c⟩
theorem dgN_non {v : V} (h : DgN p H v .none) : v = .non := by
  generalize e : PyData.none = d at h
  cases h with
  | atm a =>
    rcases a with rfl | ⟨b, rfl⟩ | ⟨b, rfl⟩ | ⟨b, rfl⟩
    · rfl
    · cases e
    · cases e
    · cases e
  | tup a b => cases e
  | lst a b c => cases e
theorem dgN_str {v : V} {s : Str} (h : DgN p H v (.str s)) : v = .str s := by
  generalize e : PyData.str s = d at h
  cases h with
  | atm a =>
    rcases a with rfl | ⟨b, rfl⟩ | ⟨b, rfl⟩ | ⟨b, rfl⟩
    · cases e
    · cases e
    · cases e
    · cases e
      rfl
  | tup a b => cases e
  | lst a b c => cases e
theorem dgN_names : ∀ {q : List Str} {xs : List V}, DgNAll p H xs (q.map PyData.str) → xs = q.map V.str
  | [], _, .nil => rfl
  | s :: r, _, .cons h t => by rw [dgN_str h, dgN_names t]; rfl
theorem dgN_path {q : List Str} {v : V} (h : DgN p H v (.list (q.map PyData.str))) : ∃ a, v = .ref a ∧ a ≠ p ∧ H a = some (.lst (q.map V.str)) := by
  obtain ⟨a, xs, rfl, n, e, t⟩ := dgN_lst h
  rw [dgN_names t] at e
  exact ⟨a, rfl, n, e⟩
theorem dgN_len : ∀ {xs : List V} {ds : List PyData}, DgNAll p H xs ds → xs.length = ds.length
  | _, _, .nil => rfl
  | _, _, .cons _ t => by rw [List.length_cons, List.length_cons, dgN_len t]
theorem dgN_at : ∀ {xs : List V} {ds : List PyData}, DgNAll p H xs ds → ∀ (i : Nat) (h1 : i < xs.length) (h2 : i < ds.length), DgN p H xs[i] ds[i]
  | _, _, .nil, i, h1, _ => absurd h1 (Nat.not_lt_zero _)
  | _, _, .cons h t, 0, _, _ => h
  | _, _, .cons h t, i + 1, h1, h2 => dgN_at t i (by simpa using h1) (by simpa using h2)
end
end U
namespace Law
open PySem PySem.Spec PyProof.Rows L2 U LamX


section
variable {P : Program} {w : World} {K : PySem.W.Frag} {mg : Str → Option Value} {base : Heap}
structure ZGa (P : Program) (w : World) (K : PySem.W.Frag) (mg : Str → Option Value) (base : Heap) : Prop where
  _law_is_path : Cal P w K mg base CX0 1 "_law_is_path" spPaJ
  _law_steps : Cal P w K mg base CX0 2 "_law_steps" spStp
  _law_is_frozen_here : Cal P w K mg base CX0 4 "_law_is_frozen_here" (spFzJ K)
  _law_component_of : Cal P w K mg base CX0 1 "_law_component_of" spCmp54
theorem ok_bndL {f : Addr} {fd : FuncData} (F : Fun K "_law_bound" "_law_bound" s__law_bound f fd) (B : Bt mg) (C : ZGa P w K mg base) : FnG P w K mg base CX0 5 f fd ["_law_graph", "_law_state", "_law_candidate", "_law_node", "_law_known", "_law_free", "_law_pins", "_law_direction"] (spBndL K) := by
  refine fnG0 F sc__law_bound (fun vs H Q E h => ?_) (fun cdv A outer s H vs Q E hr h => ?_)
  · obtain ⟨dp, g, n, e, st, kd, fr, ps, v, b, x, dir, ns, ord, pn, ks, frs, es, f, k, rfl, _⟩ := h
    rfl
  · obtain ⟨dp, g, n, e, st, kd, fr, ps, v, b, x, dir, ns, ord, pn, ks, frs, es, f, k, rfl, hdir, gs, dg, br, hkd, hfr, f1000, hps, q⟩ := h
    have nd := sc__law_bound.nd
    have hu := hr.u1
    refine ⟨_, (pss_cons (ps_if (PW.pt (pw_or (pt_not (pt_val (pe_callB (kIsi K rfl) (by rfl) B.isinstance bb_isinstance (pa_cons (pv 2) (pa_cons (pe_ty rfl B.tuple bb_tuple) pa_nil))))) (pw_or1 (pt_cmpR (kNe K rfl hr.u64) (pe_callB (kLen K rfl) (by rfl) B.len bb_len (pa_cons (pv 2) pa_nil)) pe_int (nomark _))))) (pss_one (ps_ret pe_non)) pss_nil)
  (pss_cons (ps_if (pt_not (pt_val (pe_c C._law_is_path hr (by decide) rfl (pa_cons (pv 0) (pa_cons (pe_ix (kIx K rfl) (pv 2) pe_int (fun _ _ => rfl)) pa_nil))))) (pss_one (ps_ret pe_non)) pss_nil)
  (pss_cons (ps_set (i := 8) nd rfl (by first | exact Or.inl rfl | exact Or.inr rfl) (pe_ix (kIx K rfl) (pv 2) pe_int (fun _ _ => rfl)))
  (pss_cons (ps_if (pt_cmpR (kNe K rfl hr.u64) (pe_ix (kIx K rfl) (pv 8) (pe_un un_neg pe_int) (fun _ _ => rfl)) (pv 3) (nomark _)) (pss_one (ps_ret pe_non)) pss_nil)
  (pss_cons (ps_set (i := 9) nd rfl (by first | exact Or.inl rfl | exact Or.inr rfl) (pe_callB (kLen K rfl) (by rfl) B.len bb_len (pa_cons (pe_c C._law_steps hr (by decide) rfl (pa_cons (pv 1) (pa_cons (pv 8) (pa_cons (pv 7) pa_nil)))) pa_nil)))
  (pss_cons (ps_if (pt_cmpR uIs (pe_ix (kIx K rfl) (pv 2) pe_int (fun _ _ => rfl)) pe_non (nomark _)) (pss_one (ps_ret (pe_ifExp (pt_cmp (pc_din hu (pe_ix (kIx K rfl) (pv 8) pe_int (fun _ _ => rfl)) (pv 4))) (pe_op uSub (pe_dget hu (pv 4) (pe_ix (kIx K rfl) (pv 8) pe_int (fun _ _ => rfl)) (fun _ _ => rfl)) (pe_op uMul (pv 7) (pv 9))) pe_non))) pss_nil)
  (pss_cons (ps_if (pt_not (pt_val (pe_c C._law_is_frozen_here hr (by decide) rfl (pa_cons (pv 0) (pa_cons (pv 1) (pa_cons (pe_ix (kIx K rfl) (pv 8) pe_int (fun _ _ => rfl)) (pa_cons (pe_ix (kIx K rfl) (pv 2) pe_int (fun _ _ => rfl)) (pa_cons (pv 6) pa_nil)))))))) (pss_one (ps_ret pe_non)) pss_nil)
  (pss_cons (ps_if (pt_cmpR (kNe K rfl hr.u64) (pe_lc (own := [("_law_one", 10)]) rfl nd (ki_list K rfl (pv 5)) (blkOk_by (own := [("_law_one", 10)]) (N := nN__law_bound) (sc := defScope s__law_bound) (by decide +kernel)) (fun _ _ _ _ _ => (pg_name (i := 10) nd rfl (by first | exact Or.inl rfl | exact Or.inr rfl))) (fun _ _ _ _ _ => (pts_one (pt_cmpR (kIn K rfl) (pv 10) (pe_c C._law_component_of hr (by decide) rfl (pa_cons (pv 0) (pa_cons (pe_ix (kIx K rfl) (pv 8) pe_int (fun _ _ => rfl)) pa_nil))) rfl))) (fun _ _ _ _ _ => (pv 10))) (pe_lst pa_nil) (nomark _)) (pss_one (ps_ret pe_non)) pss_nil)
  (pss_one (ps_ret (pe_op uSub pe_int (pe_op uMul (pv 7) (pv 9))))))))))))), ?_⟩
    wtm_at "rd"
    cases b with
    | none =>
      obtain rfl := dgN_non dg
      wtm_at "rd"
      refine rd_isi ty_non rfl ?_
      rw [show isT Ty.non Ty.tup = false from rfl]
      wtm_at "rd"
      exact q H (Same.refl _)
    | some b =>
    have dg : DgN dp H v (.tuple [.list (b.p.map PyData.str), datC b.c]) := dg
    obtain ⟨a, us, rfl, hs, all⟩ := dgN_tup dg
    cases all with
    | @cons u1 us1 d1' ds1 d1 all =>
    cases all with
    | @cons u2 us2 d2' ds2 d2 all =>
    cases all
    obtain ⟨pa, rfl, _, hpa⟩ := dgN_path d1
    have l100 := gs.l2
    obtain ⟨rp, rq⟩ : RawP ns 1000 b.p ∧ ∀ q, b.c = some q → RawP ns 1000 q.1 ∧ RawP ns 1000 q.2 := br
    obtain ⟨p1, p2, p3⟩ := rp
    wtm_at "rd"
    refine rd_isi (ty_tup hs) rfl ?_
    rw [show isT Ty.tup Ty.tup = true from rfl]
    wtm_at "rd"
    refine rd_lenT (SqT.of hs) ?_
    wtm_at "rd"
    refine rd_nno rfl ?_
    wtm_at "rd"
    refine rd_ixT (SqT.of hs) (v := .ref pa) rfl ?_
    wtm_at "rd"
    refine ⟨g, n, e, pa, ns, b.p, es, rfl, gs.grs, hpa, ⟨p1, p2, p3⟩, fun bb H1 s1 hb => ?_⟩
    unfold bndN at q
    dsimp only at q
    obtain ⟨y, ey, yin⟩ : ∃ y, b.p.head? = some y ∧ y ∈ ns := by
      obtain ⟨y, a, b⟩ := head_ofD p1
      exact ⟨y, a, p3 y b⟩
    obtain ⟨z, ez, zm⟩ := last_ofD p1
    rw [ey] at q
    dsimp only at q
    have a0 : atI (b.p.map V.str) 0 = some (.str y) := atI_hd ey
    have am : atI (b.p.map V.str) (-1) = some (.str z) := atI_la ez
    cases bb with
    | false =>
      wtm_at "rd"
      have := q H1 s1
      rw [if_neg (fun z => nomatch hb.mpr z.2.2.1)] at this
      exact this
    | true =>
    have p4 := hb.mp rfl
    clear hb d1
    have hpa1 := s1 _ _ hpa
    wtm_at "rd"
    refine rd_ixT (SqT.of (s1 _ _ hs)) (v := .ref pa) rfl ?_
    wtm_at "rd"
    refine rd_ixL (SqL.of hpa1) am ?_
    wtm_at "rd"
    refine rd_nsplit (fun c1 => ?_) (fun c1 => ?_)
    · wtm_at "rd"
      have := q H1 s1
      rw [if_neg (fun h => c1 (by
        have := h.2.2.2
        rw [ez] at this
        exact Option.some.inj this))] at this
      exact this
    have c1 : z = x := c1
    rw [if_pos ⟨p2, p3, p4, by rw [ez, c1]⟩] at q
    have gs1 := gs.same s1
    wtm_at "rd"
    refine ⟨g, n, e, st, pa, dir, ns, ord, b.p, es, f, rfl, gs1, hpa1, ⟨p1, p2, p3⟩, fun l js H2 sx hl jl => ?_⟩
    have s2 := s1.trans sx
    wtm_at "rd"
    refine rd_lenL (SqL.of hl) ?_
    rw [List.length_map, jl]
    have jb : stN f dir b.p ≤ b.p.length - 1 := (st_sum hdir).1
    generalize stN f dir b.p = N at *
    clear hl jl sx
    have hpa2 := s2 _ _ hpa
    have gs2 := gs.same s2
    wtm_at "rd"
    refine rd_ixT (SqT.of (s2 _ _ hs)) (v := u2) rfl ?_
    cases ec : b.c with
    | none =>
      rw [ec] at d2 q
      obtain rfl := dgN_non d2
      dsimp only at q
      wtm_at "rd"
      rw [decide_eq_true rfl]
      wtm_at "rd"
      refine rd_ixL (SqL.of hpa2) a0 ?_
      wtm_at "rd"
      refine rd_din1 (.inl (s2 _ _ hkd)) (k := .inr y) rfl ?_
      have q := q H2 s2
      by_cases yk : y ∈ ks
      · rw [if_pos yk] at q
        rw [kvF_val yk]
        wtm_at "rd"
        try refine rd_bl ?_
        try refine rd_T ?_
        wtm_at "rd"
        refine rd_ixL (SqL.of hpa2) a0 ?_
        wtm_at "rd"
        refine rd_dat (.inl (s2 _ _ hkd)) (kvF_val yk) rfl ?_
        rcases hdir with rfl | rfl
        · wtm_at "rd"
          exact q
        · wtm_at "rd"
          exact q
      · rw [if_neg yk] at q
        rw [kvF_none yk]
        wtm_at "rd"
        try refine rd_bl ?_
        try refine rd_F ?_
        wtm_at "rd"
        exact q
    | some c =>
      rw [ec] at d2 q
      dsimp only at q
      have d2 : DgN dp H u2 (.tuple [.list (c.1.map PyData.str), .list (c.2.map PyData.str)]) := d2
      obtain ⟨ca, cus, rfl, hca, call⟩ := dgN_tup d2
      cases call with
      | @cons w1 ws1 _ _ e1 call =>
      cases call with
      | @cons w2 ws2 _ _ e2 call =>
      cases call
      obtain ⟨q1, rfl, _, hq1⟩ := dgN_path e1
      obtain ⟨q2, rfl, _, hq2⟩ := dgN_path e2
      obtain ⟨rq1, rq2⟩ := rq c ec
      wtm_at "rd"
      rw [show decide (V.ref ca = V.non) = false from decide_eq_false (fun z => nomatch z)]
      wtm_at "rd"
      refine rd_ixL (SqL.of hpa2) a0 ?_
      wtm_at "rd"
      refine rd_ixT (SqT.of (s2 _ _ hs)) (v := .ref ca) rfl ?_
      wtm_at "rd"
      refine ⟨g, n, e, st, ca, q1, q2, ps, y, ns, ord, pn, c.1, c.2, es, f, rfl, gs2, s2 _ _ hca, s2 _ _ hq1, s2 _ _ hq2, rq1, rq2, Same.seqT s2 hps, fun b3 H3 s3 hb3 => ?_⟩
      have s23 := s2.trans s3
      wtm_at "rd"
      cases b3 with
      | false =>
        wtm_at "rd"
        have := q H3 s23
        rw [if_neg (fun z => by
          have := hb3.mpr z.1
          cases this)] at this
        exact this
      | true =>
      have fcy : fcQ ns (es.map (·.2)) f pn y c := hb3.mp rfl
      have hpa3 := s23 _ _ hpa
      wtm_at "rd"
      refine rd_forL (SqL.of (s23 _ _ hfr)) ?_
      intro D3 fD3
      have fD30 := new_of_same s23 fD3
      refine lcL (K := K) (xs := frs.map V.str) (fun i H' => ∃ zs : List Str, Same H H' ∧ H' D3 = some (.lst (zs.map V.str)) ∧ zs.length ≤ i ∧ (∀ z ∈ zs, z ∈ ns) ∧ (zs = [] ↔ ¬ ∃ z ∈ frs.take i, Con (es.map (·.2)) y z)) ⟨[], same_add s23 fD3, upd_same, Nat.le_refl _, (fun z h => nomatch h), ⟨(fun _ ⟨z, h, _⟩ => nomatch h), fun _ => rfl⟩⟩ ?_ ?_ ?_
      · rintro i H' hi ⟨zs, s, _⟩
        exact SqL.of (s _ _ hfr)
      · rintro i yy H' hy ⟨zs, s, hD, zl, zn, ze⟩
        obtain ⟨hi, rfl⟩ := map_at hy
        rw [take_snoc hi]
        generalize frs[i] = o at *
        wtm_at "rd"
        refine rd_ixL (SqL.of (s _ _ hpa)) a0 ?_
        wtm_at "rd"
        refine ⟨g, n, e, y, ns, es, rfl, (gs.same s).grs, yin, fun l ys H4 s4 hl4 yse => ?_⟩
        refine rd_inSL (SqL.of hl4) ?_
        have hD4 := s4 _ _ hD
        wtm_at "rd"
        refine rd_split (fun c2 => ?_) (fun c2 => ?_)
        · wtm_at "rd"
          refine rd_acc hD4 (by rw [List.length_map]; omega) ?_
          refine ⟨zs ++ [o], same_put (s.trans s4) fD30, by rw [upd_same, List.map_append]; rfl, by rw [List.length_append]; show _ + 1 ≤ _; omega, fun z hz => ?_, ⟨fun z => absurd z (by simp), fun z => absurd ⟨o, List.mem_append_right _ List.mem_cons_self, (yse o).mp c2⟩ z⟩⟩
          rcases List.mem_append.mp hz with hz | hz
          · exact zn z hz
          · rw [List.mem_singleton.mp hz]
            exact con_inN gs.eok yin ((yse o).mp c2)
        · refine ⟨zs, s.trans s4, hD4, by omega, zn, ?_⟩
          rw [ze]
          constructor
          · rintro nz ⟨z, hz, hc⟩
            rcases List.mem_append.mp hz with hz | hz
            · exact nz ⟨z, hz, hc⟩
            · rw [List.mem_singleton.mp hz] at hc
              exact c2 ((yse o).mpr hc)
          · rintro nz ⟨z, hz, hc⟩
            exact nz ⟨z, List.mem_append_left _ hz, hc⟩
      rintro H4 ⟨zs, s4, hD, zl, zn, ze⟩
      rw [List.length_map, List.take_length] at ze
      wtm_at "rd"
      intro k0 fk0
      have kk0 := Same.new (o := .lst []) fk0
      have hk0 := @upd_same H4 k0 (.lst [])
      have hD := kk0 _ _ hD
      have s4 := s4.trans kk0
      generalize upd H4 k0 (.lst []) = H5 at hk0 hD s4
      clear kk0 fk0
      refine rd_neNil (SqL.of hD) (SqL.of hk0) (fun z hz => gs.sok z (zn z hz)) ?_
      have q := q H5 s4
      cases zs with
      | nil =>
        rw [if_pos ⟨fcy, ze.mp rfl⟩] at q
        rw [show (!([] : List Str).isEmpty) = false from rfl]
        rcases hdir with rfl | rfl
        · wtm_at "rd"
          have q : Q (.int (-1 * (N : Int))) H5 := q
          rw [show (-1 * (N : Int)) = 0 - 1 * (N : Int) from by omega] at q
          exact q
        · wtm_at "rd"
          have q : Q (.int (- -1 * (N : Int))) H5 := q
          rw [show (- -1 * (N : Int)) = 0 - -1 * (N : Int) from by omega] at q
          exact q
      | cons z r =>
        rw [if_neg (fun h => nomatch ze.mpr h.2)] at q
        wtm_at "rd"
        exact q
structure ZGb (P : Program) (w : World) (K : PySem.W.Frag) (mg : Str → Option Value) (base : Heap) : Prop where
  _law_component_of : Cal P w K mg base CX0 1 "_law_component_of" spCmp54
  _law_bound : Cal P w K mg base CX0 5 "_law_bound" (spBndL K)
theorem ok_isBrL {f : Addr} {fd : FuncData} (F : Fun K "_law_is_branch" "_law_is_branch" s__law_is_branch f fd) (B : Bt mg) (C : ZGb P w K mg base) (S : SelfR K mg "_law_is_branch" f fd ["_law_graph", "_law_state", "_law_wanted", "_law_branch", "_law_known", "_law_free", "_law_pins"]) : ∀ m : Nat, FnG P w K mg base CX0 (m + 6) f fd ["_law_graph", "_law_state", "_law_wanted", "_law_branch", "_law_known", "_law_free", "_law_pins"] (spIsBrL K m) := by
  intro m
  induction m using Nat.strongRecOn with
  | ind m ih =>
  have cal : Cal P w K mg base CX0 (m + 5) "_law_is_branch" (fun vs H Q E => ∃ j, j < m ∧ spIsBrL K j vs H Q E) := ⟨f, fd, _, ⟨fun vs H Q E h => by
    obtain ⟨j, hj, h⟩ := h
    exact (ih j hj).len vs H Q E h, fun A outer s H args us vs Q E hr he hb hv h => by
    obtain ⟨j, hj, h⟩ := h
    exact (ih j hj).go A outer s H args us vs Q E (hr.mono (by omega)) he hb hv h⟩, S.mg, S.kp, S.bd⟩
  refine fnG0 F sc__law_is_branch (fun vs H Q E h => ?_) (fun cdv A outer s H vs Q E hr h => ?_)
  · obtain ⟨dp, g, n, e, st, wd, kd, fr, ps, v, T, ns, ord, ws, pn, ks, frs, es, f, w, k, rfl, _⟩ := h
    rfl
  · obtain ⟨dp, g, n, e, st, wd, kd, fr, ps, v, T, ns, ord, ws, pn, ks, frs, es, f, w, k, rfl, S, km, fm, dg, tok, traw, tdp, wsn, q⟩ := h
    have nd := sc__law_is_branch.nd
    have hu := hr.u1
    have kl := S.kl
    refine ⟨_, (pss_cons (ps_if (PW.pt (pw_or (pt_not (pt_val (pe_callB (kIsi K rfl) (by rfl) B.isinstance bb_isinstance (pa_cons (pv 3) (pa_cons (pe_ty rfl B.tuple bb_tuple) pa_nil))))) (pw_or (pt_cmpR (kNe K rfl hr.u64) (pe_callB (kLen K rfl) (by rfl) B.len bb_len (pa_cons (pv 3) pa_nil)) pe_int (nomark _)) (pw_or1 (pt_not (pt_val (pe_callB (kIsi K rfl) (by rfl) B.isinstance bb_isinstance (pa_cons (pe_ix (kIx K rfl) (pv 3) pe_int (fun _ _ => rfl)) (pa_cons (pe_ty rfl B.list bb_list) pa_nil))))))))) (pss_one (ps_ret pe_bl)) pss_nil)
  (pss_cons (ps_set (i := 7) nd rfl (by first | exact Or.inl rfl | exact Or.inr rfl) (pe_ix (kIx K rfl) (pv 3) pe_int (fun _ _ => rfl)))
  (pss_cons (ps_if (PW.pt (pw_or (pt_not (pt_val (pe_callB (kIsi K rfl) (by rfl) B.isinstance bb_isinstance (pa_cons (pv 7) (pa_cons (pe_ty rfl B.str bb_str) pa_nil))))) (pw_or (pt_cmp (pc_dnotin hu (pv 7) (pv 2))) (pw_or1 (pt_cmp (pc_din hu (pv 7) (pv 4))))))) (pss_one (ps_ret pe_bl)) pss_nil)
  (pss_cons (ps_set (i := 8) nd rfl (by first | exact Or.inl rfl | exact Or.inr rfl) pe_int)
  (pss_cons (ps_set (i := 9) nd rfl (by first | exact Or.inl rfl | exact Or.inr rfl) pe_int)
  (pss_cons (ps_set (i := 10) nd rfl (by first | exact Or.inl rfl | exact Or.inr rfl) (pe_callTy (kList K rfl rfl) (by rfl) B.list bb_list (pa_cons (pv 5) pa_nil)))
  (C8.pss_cut (ps_if (PW.pt (pw_and (pt_cmpR uIs (pe_ix (kIx K rfl) (pv 3) pe_int (fun _ _ => rfl)) pe_non (nomark _)) (pw_and1 (pt_cmpR uIs (pe_ix (kIx K rfl) (pv 3) pe_int (fun _ _ => rfl)) pe_non (nomark _))))) (pss_cons (ps_if (pt_cmpR (kNe K rfl hr.u64) (pe_lock (pe_lc (own := [("_law_one", 11)]) rfl nd (pi_keys (pv 4)) (blkOk_by (own := [("_law_one", 11)]) (N := nN__law_is_branch) (sc := defScope s__law_is_branch) (by decide +kernel)) (fun _ _ _ _ _ => (pg_name (i := 11) nd rfl (by first | exact Or.inl rfl | exact Or.inr rfl))) (fun _ _ _ _ _ => (pts_one (pt_cmpR (kIn K rfl) (pv 11) (pe_c C._law_component_of hr (by omega) rfl (pa_cons (pv 0) (pa_cons (pv 7) pa_nil))) rfl))) (fun _ _ _ _ _ => (pv 11)))) (pe_lst pa_nil) (nomark _)) (pss_one (ps_ret pe_bl)) pss_nil)
  (pss_one (ps_expr (pe_bm PySem.F.plainAttrs_list PySem.F.slot_list_append PySem.F.type_list_append mt_append (pv 10) (pa_cons (pv 7) pa_nil))))) (pss_cons (ps_set (i := 8) nd rfl (by first | exact Or.inl rfl | exact Or.inr rfl) (pe_c C._law_bound hr (by omega) rfl (pa_cons (pv 0) (pa_cons (pv 1) (pa_cons (pe_ix (kIx K rfl) (pv 3) pe_int (fun _ _ => rfl)) (pa_cons (pv 7) (pa_cons (pv 4) (pa_cons (pv 5) (pa_cons (pv 6) (pa_cons pe_int pa_nil))))))))))
  (pss_cons (ps_set (i := 9) nd rfl (by first | exact Or.inl rfl | exact Or.inr rfl) (pe_c C._law_bound hr (by omega) rfl (pa_cons (pv 0) (pa_cons (pv 1) (pa_cons (pe_ix (kIx K rfl) (pv 3) pe_int (fun _ _ => rfl)) (pa_cons (pv 7) (pa_cons (pv 4) (pa_cons (pv 5) (pa_cons (pv 6) (pa_cons (pe_op uSub pe_int pe_int) pa_nil))))))))))
  (pss_one (ps_if (PW.pt (pw_or (pt_cmpR uIs (pv 8) pe_non (nomark _)) (pw_or1 (pt_cmpR uIs (pv 9) pe_non (nomark _))))) (pss_one (ps_ret pe_bl)) pss_nil)))))
  (pss_cons (ps_setLc (i := 12) (own := [("_law_k", 13)]) rfl nd rfl rfl (sw_true rfl rfl rfl (by decide +kernel)) (pi_range2 rfl B.range (pa_cons (pv 8) (pa_cons (pe_op (kAdd K rfl) (pv 9) pe_int) pa_nil))) (blkOk_by (own := [("_law_k", 13)]) (N := nN__law_is_branch) (sc := defScope s__law_is_branch) (by decide +kernel)) (fun _ _ _ _ _ => (pg_name (i := 13) nd rfl (by first | exact Or.inl rfl | exact Or.inr rfl))) (fun _ _ _ _ _ => (pts_one (pt_cmpR (kEq K rfl hr.u64) (pe_op uMod (pe_op uSub (pe_dget hu (pv 1) (pv 7) (fun _ _ => rfl)) (pv 13)) pe_int) (pe_dget hu (pv 2) (pv 7) (fun _ _ => rfl)) (nomark _)))) (fun _ _ _ _ _ => (pv 13)))
  (pss_cons (ps_if (pt_cmpR (kNe K rfl hr.u64) (pe_callB (kLen K rfl) (by rfl) B.len bb_len (pa_cons (pv 12) pa_nil)) (pe_callB (kLen K rfl) (by rfl) B.len bb_len (pa_cons (pe_ix (kIx K rfl) (pv 3) pe_int (fun _ _ => rfl)) pa_nil)) (nomark _)) (pss_one (ps_ret pe_bl)) pss_nil)
  (pss_cons (ps_for PassesOwn.never rfl (pi_range1 rfl B.range (pa_cons (pe_callB (kLen K rfl) (by rfl) B.len bb_len (pa_cons (pv 12) pa_nil)) pa_nil)) (pg_name (i := 13) nd rfl (by first | exact Or.inl rfl | exact Or.inr rfl)) (pss_cons (ps_set (i := 14) nd rfl (by first | exact Or.inl rfl | exact Or.inr rfl) (pe_callTy cDict (by rfl) B.dict bb_dict (pa_cons (pv 4) pa_nil)))
  (pss_cons (ps_dput hu (pv 14) (pv 7) (pe_ix (kIx K rfl) (pv 12) (pv 13) (fun _ _ => rfl)) rfl)
  (pss_one (ps_if (pt_not (pt_val (pe_c cal hr (by omega) rfl (pa_cons (pv 0) (pa_cons (pv 1) (pa_cons (pv 2) (pa_cons (pe_ix (kIx K rfl) (pe_ix (kIx K rfl) (pv 3) pe_int (fun _ _ => rfl)) (pv 13) (fun _ _ => rfl)) (pa_cons (pv 14) (pa_cons (pv 10) (pa_cons (pv 6) pa_nil)))))))))) (pss_one (ps_ret pe_bl)) pss_nil)))))
  (pss_one (ps_ret pe_bl)))))))))))), ?_⟩
    wtm_at "rd"
    have pd : Dp K H v (datT T) := dg.dp
    cases T with
    | odd d =>
      have bad : ∀ H', Same H H' → Q (.bl false) H' := fun H' s => q false H' s ⟨nofun, fun y => absurd y brP_odd⟩
      have ob : OddB d := tok
      have pd : Dp K H v d := pd
      have dg : DgN dp H v d := dg
      have alt : (∃ t, TyIs K H v t ∧ isT t .tup = false) ∨ ∃ a us ds, v = .ref a ∧ d = .tuple ds ∧ SqT K H a us ∧ DpAll K H us ds ∧ TyIs K H v .tup := by
        rcases dp_ty pd with ⟨s, rfl, rfl⟩ | ⟨a, us, ds, rfl, rfl, h1, h2, h3⟩ | ⟨a, us, ds, rfl, rfl, h1, h2, h3⟩ | ⟨t, h1, h2, h3, _⟩
        · exact .inl ⟨_, ty_str, rfl⟩
        · exact .inl ⟨_, h3, rfl⟩
        · exact .inr ⟨a, us, ds, rfl, rfl, h1, h2, h3⟩
        · exact .inl ⟨t, h1, h3⟩
      rcases alt with ⟨t, ht, hf⟩ | ⟨a, us, ds, rfl, rfl, hs, all, ht⟩
      · refine rd_isi ht rfl ?_
        rw [hf]
        wtm_at "rd"
        exact bad H (Same.refl _)
      refine rd_isi ht rfl ?_
      rw [show isT Ty.tup Ty.tup = true from rfl]
      wtm_at "rd"
      refine rd_lenT hs ?_
      wtm_at "rd"
      have ll : us.length = ds.length := dpaLen all
      refine rd_nsplit (fun c1 => ?_) (fun c1 => ?_)
      · wtm_at "rd"
        exact bad H (Same.refl _)
      rcases ob with o | ⟨ds2, e2, o⟩ | ⟨d1, d2, d3, d4, e2, o⟩
      · exact absurd rfl (o ds)
      · cases e2
        have c1 : (us.length : Int) = 4 := c1
        omega
      · cases e2
        cases all with
        | @cons u1 us1 _ _ a1 all =>
        cases all with
        | @cons u2 us2 _ _ a2 all =>
        cases all with
        | @cons u3 us3 _ _ a3 all =>
        cases all with
        | @cons u4 us4 _ _ a4 all =>
        cases all
        wtm_at "rd"
        refine rd_ixT hs (v := u4) rfl ?_
        wtm_at "rd"
        have t4 : ∃ t, TyIs K H u4 t := by
          rcases dp_ty a4 with ⟨s, rfl, rfl⟩ | ⟨a, us, ds, rfl, rfl, h1, h2, h3⟩ | ⟨a, us, ds, rfl, rfl, h1, h2, h3⟩ | ⟨t, h1, _⟩
          · exact ⟨_, ty_str⟩
          · exact ⟨_, h3⟩
          · exact ⟨_, h3⟩
          · exact ⟨t, h1⟩
        obtain ⟨t4, ht4⟩ := t4
        refine rd_isi ht4 rfl ?_
        cases c4 : isT t4 .lst with
        | false =>
          wtm_at "rd"
          exact bad H (Same.refl _)
        | true =>
        wtm_at "rd"
        refine rd_ixT hs (v := u1) rfl ?_
        have t1 : ∃ t, TyIs K H u1 t ∧ isT t .str = false := by
          rcases dp_ty a1 with ⟨s, rfl, rfl⟩ | ⟨a, us, ds, rfl, rfl, h1, h2, h3⟩ | ⟨a, us, ds, rfl, rfl, h1, h2, h3⟩ | ⟨t, h1, h2, h3, h4, _⟩
          · exact absurd rfl (o s)
          · exact ⟨_, h3, rfl⟩
          · exact ⟨_, h3, rfl⟩
          · exact ⟨t, h1, h4⟩
        obtain ⟨t, ht, hf⟩ := t1
        wtm_at "rd"
        refine rd_isi ht rfl ?_
        rw [hf]
        wtm_at "rd"
        exact bad H (Same.refl _)
    | node x lo hi bs =>
      have dg : DgN dp H v (.tuple [.str x, datBd lo, datBd hi, .list (datTs bs)]) := by
        simp only [datT] at dg
        exact dg
      obtain ⟨a, us, rfl, hs, all⟩ := dgN_tup dg
      cases all with
      | @cons u1 us1 _ _ a1 all =>
      cases all with
      | @cons u2 us2 _ _ a2 all =>
      cases all with
      | @cons u3 us3 _ _ a3 all =>
      cases all with
      | @cons u4 us4 _ _ a4 all =>
      cases all
      obtain rfl := dgN_str a1
      obtain ⟨bl, bus, rfl, _, hbl, ball⟩ := dgN_lst a4
      have bl_len := dgN_len ball
      rw [datTs_len] at bl_len
      have raw : BdR ns lo ∧ BdR ns hi ∧ BrT.raws ns bs := by
        simp only [BrT.raw] at traw
        exact traw
      obtain ⟨rlo, rhi, rbs⟩ := raw
      wtm_at "rd"
      refine rd_isi (ty_tup hs) rfl ?_
      rw [show isT Ty.tup Ty.tup = true from rfl]
      wtm_at "rd"
      refine rd_lenT (SqT.of hs) ?_
      wtm_at "rd"
      refine rd_nno rfl ?_
      wtm_at "rd"
      refine rd_ixT (SqT.of hs) (v := .ref bl) rfl ?_
      wtm_at "rd"
      refine rd_isi (ty_lst hbl) rfl ?_
      rw [show isT Ty.lst Ty.lst = true from rfl]
      wtm_at "rd"
      refine rd_ixT (SqT.of hs) (v := .str x) rfl ?_
      wtm_at "rd"
      refine rd_isi ty_str rfl ?_
      rw [show isT Ty.str Ty.str = true from rfl]
      wtm_at "rd"
      have no : ∀ H', Same H H' → ¬ brP ns (es.map (·.2)) f pn (fcQ ns (es.map (·.2)) f pn) ws w ks k frs (.node x lo hi bs) → Q (.bl false) H' := fun H' s y => q false H' s ⟨nofun, fun z => absurd z y⟩
      refine rd_din1 (.inl S.wd) (k := .inr x) rfl ?_
      by_cases xw : x ∈ ws
      case neg =>
        rw [kvF_none xw]
        wtm_at "rd"
        try refine rd_bl ?_
        try refine rd_T ?_
        wtm_at "rd"
        exact no H (Same.refl _) fun z => xw (brP_node.mp z).2.1
      rw [kvF_val xw]
      wtm_at "rd"
      try refine rd_bl ?_
      try refine rd_F ?_
      wtm_at "rd"
      refine rd_din1 (.inl S.kd) (k := .inr x) rfl ?_
      by_cases xk : x ∈ ks
      case pos =>
        rw [kvF_val xk]
        wtm_at "rd"
        try refine rd_bl ?_
        try refine rd_T ?_
        wtm_at "rd"
        exact no H (Same.refl _) fun z => (brP_node.mp z).2.2.1 xk
      rw [kvF_none xk]
      wtm_at "rd"
      try refine rd_bl ?_
      try refine rd_F ?_
      have xin := wsn x xw
      have l100 := S.gs.l2
      wtm_at "rd"
      refine rd_listL (SqL.of S.fr) ?_
      intro ub fub
      have sI := Same.new (o := .lst (frs.map V.str)) fub
      have hub := @upd_same H ub (.lst (frs.map V.str))
      generalize upd H ub (.lst (frs.map V.str)) = H1 at *
      have S1 := S.same sI
      have hs1 := sI _ _ hs
      have e2 : u2 = .non ↔ lo = none := bd_non a2.dp (K := K)
      have e3 : u3 = .non ↔ hi = none := bd_non a3.dp (K := K)
      wtm_at "rd"
      refine ⟨fun σ' H' => ∃ (i1 i2 : Int) (u11 : Option V), σ' = [some (.ref g), some (.ref st), some (.ref wd), some (.ref a), some (.ref kd), some (.ref fr), some (.ref ps), some (.str x), some (.int i1), some (.int i2), some (.ref ub), u11, none, none, none] ∧ Same H H' ∧ H' ub = some (.lst ((if lo.isNone then frs ++ [x] else frs).map V.str)) ∧ reqN ns (es.map (·.2)) f pn (fcQ ns (es.map (·.2)) f pn) w ks k frs x lo hi = some (nmsF f w x i1 i2) ∧ -20000 ≤ i1 ∧ i1 ≤ 20000 ∧ -20000 ≤ i2 ∧ i2 ≤ 20000, ?_, ?_⟩
      · by_cases c1 : lo = none ∧ hi = none
        · obtain ⟨rfl, rfl⟩ := c1
          obtain rfl := e2.mpr rfl
          obtain rfl := e3.mpr rfl
          wtm_at "rd"
          refine rd_ixT (SqT.of hs1) (v := .non) rfl ?_
          wtm_at "rd"
          rw [decide_eq_true rfl]
          wtm_at "rd"
          refine rd_ixT (SqT.of hs1) (v := .non) rfl ?_
          wtm_at "rd"
          rw [decide_eq_true rfl]
          wtm_at "rd"
          refine rd_lockE S1.kd fun od => ?_
          wtm_at "rd"
          refine rd_forK upd_same ?_
          intro D fD
          have nDa := new_ne fD
          have fD0 := new_old fD
          refine lcW walk_keys (fun i H' => ∃ zs : List Str, But kd H1 H' ∧ H' kd = some (.frz od (.dK (kvF ks k))) ∧ H' D = some (.lst (zs.map V.str)) ∧ zs.length ≤ i ∧ (∀ z ∈ zs, z ∈ ns) ∧ (zs = [] ↔ ¬ ∃ z ∈ ks.take i, Con (es.map (·.2)) x z)) ⟨[], But.upd.trans (But.new fD), at_upd (Ne.symm nDa) upd_same, upd_same, Nat.le_refl _, (fun z h => nomatch h), ⟨(fun _ ⟨z, h, _⟩ => nomatch h), fun _ => rfl⟩⟩ ?_ ?_ ?_
          · rintro i H' hi ⟨_, _, hf, _⟩
            exact hf
          · rintro i yy H' H2 hi ⟨zs, but, hf, hD, zl, zn, ze⟩ ⟨rfl, k1, vv, e1, rfl⟩
            have hin : i < ks.length := by rw [List.length_map] at hi; exact hi
            obtain ⟨rfl, _⟩ := key_at hin e1
            rw [take_snoc hin]
            generalize ks[i] = o at *
            wtm_at "rd"
            refine ⟨g, n, e, x, ns, es, rfl, grs_but S1.gs.grs S1.kd but, xin, fun l ys H4 s4 hl4 yse => ?_⟩
            refine rd_inSL (SqL.of hl4) ?_
            have hD4 := s4 _ _ hD
            have but4 : But kd H1 H4 := fun b' o' nb hb' => s4 _ _ (but b' o' nb hb')
            have hf4 := s4 _ _ hf
            wtm_at "rd"
            refine rd_split (fun c2 => ?_) (fun c2 => ?_)
            · wtm_at "rd"
              refine rd_acc hD4 (by rw [List.length_map]; omega) ?_
              refine ⟨zs ++ [o], fun b' o' nb hb' => at_upd (ne_of_none hb' fD0) (but4 b' o' nb hb'), at_upd (Ne.symm nDa) hf4, by rw [upd_same, List.map_append]; rfl, by rw [List.length_append]; show _ + 1 ≤ _; omega, fun z hz => ?_, ⟨fun z => absurd z (by simp), fun z => absurd ⟨o, List.mem_append_right _ List.mem_cons_self, (yse o).mp c2⟩ z⟩⟩
              rcases List.mem_append.mp hz with hz | hz
              · exact zn z hz
              · rw [List.mem_singleton.mp hz]
                exact con_inN S.gs.eok xin ((yse o).mp c2)
            · refine ⟨zs, but4, hf4, hD4, by omega, zn, ?_⟩
              rw [ze]
              constructor
              · rintro nz ⟨z, hz, hc⟩
                rcases List.mem_append.mp hz with hz | hz
                · exact nz ⟨z, hz, hc⟩
                · rw [List.mem_singleton.mp hz] at hc
                  exact c2 ((yse o).mpr hc)
              · rintro nz ⟨z, hz, hc⟩
                exact nz ⟨z, List.mem_append_left _ hz, hc⟩
          rintro H' ⟨zs, but, hf, hD, zl, zn, ze⟩
          rw [List.length_map, List.take_length] at ze
          refine ⟨hf, ?_⟩
          have s1 := lk_same S1.kd but
          have hD1 := at_upd (o := .dK (kvF ks k)) nDa hD
          generalize upd H' kd (.dK (kvF ks k)) = H2 at s1 hD1
          clear but hf hD nDa fD0 fD
          wtm_at "rd"
          intro k0 fk0
          have kk0 := Same.new (o := .lst []) fk0
          have hk0 := @upd_same H2 k0 (.lst [])
          have hD1 := kk0 _ _ hD1
          have s1 := s1.trans kk0
          generalize upd H2 k0 (.lst []) = H3 at hk0 hD1 s1
          clear kk0 fk0
          refine rd_neNil (SqL.of hD1) (SqL.of hk0) (fun z hz => S.gs.sok z (zn z hz)) ?_
          have sJ := sI.trans s1
          cases zs with
          | cons z r =>
            wtm_at "rd"
            refine no H3 sJ fun h => ?_
            obtain ⟨_, _, _, vs, ev, _⟩ := brP_node.mp h
            unfold reqN at ev
            dsimp only at ev
            rw [if_pos (Classical.byContradiction fun z => nomatch ze.mpr z)] at ev
            cases ev
          | nil =>
            rw [show (!([] : List Str).isEmpty) = false from rfl]
            wtm_at "rd"
            refine rd_tyL (s1 _ _ hub) ?_
            wtm_at "rd"
            have fl := S.fl
            refine rd_append (s1 _ _ hub) (by rw [List.length_map]; omega) ?_
            wtm_at "rd"
            refine ⟨0, 2, _, rfl, ?_, ?_, ?_, by decide, by decide, by decide, by decide⟩
            · exact same_put sJ fub
            · rw [upd_same, Option.isNone_none, if_pos rfl, List.map_append]
              rfl
            · unfold reqN
              dsimp only
              rw [if_neg (ze.mp rfl)]
        · have ec : reqN ns (es.map (·.2)) f pn (fcQ ns (es.map (·.2)) f pn) w ks k frs x lo hi = match bndN ns (es.map (·.2)) f pn (fcQ ns (es.map (·.2)) f pn) ks k frs x 1 lo, bndN ns (es.map (·.2)) f pn (fcQ ns (es.map (·.2)) f pn) ks k frs x (-1) hi with
            | some a, some b => some (nmsF f w x a b)
            | _, _ => none := by
            unfold reqN
            split
            · exact absurd ⟨rfl, rfl⟩ c1
            · rfl
          have kb1 := fun {i : Int} => bnd_bd (ns := ns) (es := es.map (·.2)) (f := f) (pn := pn) (fc := fcQ ns (es.map (·.2)) f pn) (ks := ks) (k := k) (fr := frs) (x := x) (dir := 1) (i := i) (b := lo) S.kb (.inl rfl)
          have kb2 := fun {i : Int} => bnd_bd (ns := ns) (es := es.map (·.2)) (f := f) (pn := pn) (fc := fcQ ns (es.map (·.2)) f pn) (ks := ks) (k := k) (fr := frs) (x := x) (dir := -1) (i := i) (b := hi) S.kb (.inr rfl)
          have fl := S.fl
          have lob : lo = none → bndN ns (es.map (·.2)) f pn (fcQ ns (es.map (·.2)) f pn) ks k frs x 1 lo = none := fun z => by rw [z]; rfl
          wtm_at "rd"
          refine rd_ixT (SqT.of hs1) (v := u2) rfl ?_
          wtm_at "rd"
          refine rd_split (fun c2 => ?cA) (fun c2 => ?cB)
          case' cA =>
            wtm_at "rd"
            refine rd_ixT (SqT.of hs1) (v := u3) rfl ?_
            wtm_at "rd"
            refine rd_split (fun c3 => absurd ⟨e2.mp c2, e3.mp c3⟩ c1) (fun c3 => ?_)
          all_goals
            wtm_at "rd"
            refine rd_ixT (SqT.of hs1) (v := u2) rfl ?_
            wtm_at "rd"
            refine ⟨dp, g, n, e, st, kd, fr, ps, u2, lo, x, 1, ns, ord, pn, ks, frs, es, f, k, rfl, .inl rfl, S1.gs, a2.same sI, rlo, S1.kd, S1.fr, by omega, S1.ps, fun H2 sA => ?_⟩
            have sJ := sI.trans sA
            have S2 := S1.same sA
            have hub2 := sA _ _ hub
            wtm_at "rd"
            refine rd_ixT (SqT.of (sJ _ _ hs)) (v := u3) rfl ?_
            wtm_at "rd"
            refine ⟨dp, g, n, e, st, kd, fr, ps, u3, hi, x, -1, ns, ord, pn, ks, frs, es, f, k, rfl, .inr rfl, S2.gs, a3.same sJ, rhi, S2.kd, S2.fr, by omega, S2.ps, fun H3 sB => ?_⟩
            have sK := sJ.trans sB
            have hub3 := sB _ _ hub2
            rw [ec]
            have nor : (match bndN ns (es.map (·.2)) f pn (fcQ ns (es.map (·.2)) f pn) ks k frs x 1 lo, bndN ns (es.map (·.2)) f pn (fcQ ns (es.map (·.2)) f pn) ks k frs x (-1) hi with
              | some a, some b => some (nmsF f w x a b)
              | _, _ => none) = none → Q (.bl false) H3 := fun z => no H3 sK fun h => by
              obtain ⟨_, _, _, vs, ev, _⟩ := brP_node.mp h
              rw [ec, z] at ev
              cases ev
            have lsm : ∀ i1, bndN ns (es.map (·.2)) f pn (fcQ ns (es.map (·.2)) f pn) ks k frs x 1 lo = some i1 → lo.isNone = false := fun i1 z => by
              cases lo with
              | none => rw [lob rfl] at z; cases z
              | some b => rfl
            generalize bndN ns (es.map (·.2)) f pn (fcQ ns (es.map (·.2)) f pn) ks k frs x 1 lo = r1 at *
            generalize bndN ns (es.map (·.2)) f pn (fcQ ns (es.map (·.2)) f pn) ks k frs x (-1) hi = r2 at *
            wtm_at "rd"
            cases r1 with
            | none =>
              rw [show oI none = V.non from rfl, decide_eq_true rfl]
              wtm_at "rd"
              exact nor rfl
            | some i1 =>
              rw [show oI (some i1) = V.int i1 from rfl, decide_eq_false (fun z => nomatch z)]
              wtm_at "rd"
              cases r2 with
              | none =>
                rw [show oI none = V.non from rfl, decide_eq_true rfl]
                wtm_at "rd"
                exact nor rfl
              | some i2 =>
                rw [show oI (some i2) = V.int i2 from rfl, decide_eq_false (fun z => nomatch z)]
                have b1 := kb1 rfl
                have b2 := kb2 rfl
                wtm_at "rd"
                exact ⟨i1, i2, _, rfl, sK, by rw [lsm i1 rfl, if_neg Bool.false_ne_true]; exact hub3, rfl, by omega, by omega, by omega, by omega⟩
      clear S1 hs1 sI hub e2 e3
      rintro σ' H2 ⟨i1, i2, u11, rfl, s2, hub, hx, b1, b2, b3, b4⟩
      have S2 := S.same s2
      obtain ⟨xb, xl⟩ := req_bd S.kb S.kl hx
      wtm_at "rd"
      refine ⟨_, _, rfl, ⟨by omega, by omega, by omega, by omega⟩, ?_⟩
      intro D fD
      have tk : ∀ i, (((List.range (i + 1)).map fun (j : Nat) => i1 + (j : Int)).filter fun v => decide ((f x - v) % 3 = w x)) = (((List.range i).map fun (j : Nat) => i1 + (j : Int)).filter fun v => decide ((f x - v) % 3 = w x)) ++ [i1 + (i : Int)].filter fun v => decide ((f x - v) % 3 = w x) := fun i => by
        rw [List.range_succ, List.map_append, List.filter_append]
        rfl
      refine lcR (fun i H' => Same H2 H' ∧ H' D = some (.lst ((((List.range i).map fun (j : Nat) => i1 + (j : Int)).filter fun v => decide ((f x - v) % 3 = w x)).map V.int))) ⟨Same.new fD, upd_same⟩ ?_ ?_
      · rintro i H' hi ⟨s, hD⟩
        have len : ((((List.range i).map fun (j : Nat) => i1 + (j : Int)).filter fun v => decide ((f x - v) % 3 = w x)).map V.int).length ≤ 50001 := by
          rw [List.length_map]
          refine Nat.le_trans (List.length_filter_le _ _) ?_
          rw [List.length_map, List.length_range]
          omega
        rw [tk, List.map_append]
        wtm_at "rd"
        refine rd_dat (.inl (s _ _ S2.gs.st)) (kvF_val (S.gs.inO _ xin)) rfl ?_
        wtm_at "rd"
        refine rd_dat (.inl (s _ _ S2.wd)) (kvF_val xw) rfl ?_
        wtm_at "rd"
        refine rd_split (fun c => ?_) (fun c => ?_)
        · wtm_at "rd"
          refine rd_acc hD (by omega) ?_
          refine ⟨same_put s fD, ?_⟩
          rw [upd_same, List.filter_cons, decide_eq_true c]
          rfl
        · refine ⟨s, ?_⟩
          rw [List.filter_cons, decide_eq_false c, if_neg Bool.false_ne_true, List.filter_nil, List.map_nil, List.append_nil]
          exact hD
      rintro H3 ⟨s3, hD⟩
      have hD : H3 D = some (.lst ((nmsF f w x i1 i2).map V.int)) := hD
      have hub := s3 _ _ hub
      have s2 := s2.trans s3
      clear s3 S2 fD tk
      generalize nmsF f w x i1 i2 = xs at *
      wtm_at "rd"
      refine rd_lenL (SqL.of hD) ?_
      rw [List.length_map]
      wtm_at "rd"
      refine rd_ixT (SqT.of (s2 _ _ hs)) (v := .ref bl) rfl ?_
      wtm_at "rd"
      refine rd_lenL (SqL.of (s2 _ _ hbl)) ?_
      wtm_at "rd"
      refine rd_nsplit (fun c2 => ?_) (fun c2 => ?_)
      · wtm_at "rd"
        refine no H3 s2 fun z => ?_
        obtain ⟨_, _, _, vs, e1, e2, _⟩ := brP_node.mp z
        rw [hx] at e1
        cases e1
        have c2 : ¬ (xs.length : Int) = (bus.length : Int) := c2
        omega
      have lx : xs.length = bs.length := by
        have c2 : (xs.length : Int) = (bus.length : Int) := c2
        omega
      have S2 := S.same s2
      have fl2 : (if lo.isNone then frs ++ [x] else frs).length ≤ frs.length + 1 := by
        split
        · rw [List.length_append]
          exact Nat.le_refl _
        · omega
      have brn : brP ns (es.map (·.2)) f pn (fcQ ns (es.map (·.2)) f pn) ws w ks k frs (.node x lo hi bs) ↔ ∀ j (h1 : j < xs.length) (h2 : j < bs.length), brP ns (es.map (·.2)) f pn (fcQ ns (es.map (·.2)) f pn) ws w (ks ++ [x]) (updf k x xs[j]) (if lo.isNone then frs ++ [x] else frs) bs[j] := by
        rw [brP_node]
        constructor
        · rintro ⟨_, _, _, vs, e1, e3, z⟩
          rw [hx] at e1
          cases e1
          exact (brPs_at lx).mp z
        · intro z
          exact ⟨xin, xw, xk, xs, hx, lx, (brPs_at lx).mpr z⟩
      rw [brn] at q
      clear brn no
      generalize (if lo.isNone then frs ++ [x] else frs) = fr2 at *
      have m1 : 1 ≤ m := by
        simp only [BrT.dp] at tdp
        omega
      have kl := S.kl
      wtm_at "rd"
      refine rd_lenL (SqL.of hD) ?_
      rw [List.length_map]
      wtm_at "rd"
      refine turnsR (fun i σ H' => ∃ u13 u14 : Option V, σ = [some (.ref g), some (.ref st), some (.ref wd), some (.ref a), some (.ref kd), some (.ref fr), some (.ref ps), some (.str x), some (.int i1), some (.int i2), some (.ref ub), u11, some (.ref D), u13, u14] ∧ Same H3 H' ∧ ∀ j (h1 : j < xs.length) (h2 : j < bs.length), j < i → brP ns (es.map (·.2)) f pn (fcQ ns (es.map (·.2)) f pn) ws w (ks ++ [x]) (updf k x xs[j]) fr2 bs[j]) ⟨_, _, rfl, (fun _ _ h => h), fun j h1 h2 z => absurd z (Nat.not_lt_zero _)⟩ ?_ ?_
      · rintro i σ H4 hi ⟨u13, u14, rfl, sE, nn⟩
        have hin : i < xs.length := by omega
        have hib : i < bs.length := by omega
        have hin2 : i < bus.length := by omega
        have db : DgN dp H bus[i] (datT bs[i]) := by
          have := dgN_at ball i hin2 (by rw [datTs_len]; exact hib)
          rw [datTs_at hib] at this
          exact this
        have tk := oks_at (by simp only [BrT.ok] at tok; exact tok) _ (List.getElem_mem hib)
        have td := dps_at _ (List.getElem_mem hib)
        have tr := raws_at rbs _ (List.getElem_mem hib)
        simp only [BrT.dp] at tdp
        have xb := xb _ (List.getElem_mem hin)
        have all2 : brP ns (es.map (·.2)) f pn (fcQ ns (es.map (·.2)) f pn) ws w (ks ++ [x]) (updf k x xs[i]) fr2 bs[i] → ∀ j (h1 : j < xs.length) (h2 : j < bs.length), j < i + 1 → brP ns (es.map (·.2)) f pn (fcQ ns (es.map (·.2)) f pn) ws w (ks ++ [x]) (updf k x xs[j]) fr2 bs[j] := fun z j h1 h2 hj => by
          by_cases ej : j = i
          · subst ej
            exact z
          · exact nn j h1 h2 (by omega)
        have one : (∀ j (h1 : j < xs.length) (h2 : j < bs.length), brP ns (es.map (·.2)) f pn (fcQ ns (es.map (·.2)) f pn) ws w (ks ++ [x]) (updf k x xs[j]) fr2 bs[j]) → brP ns (es.map (·.2)) f pn (fcQ ns (es.map (·.2)) f pn) ws w (ks ++ [x]) (updf k x xs[i]) fr2 bs[i] := fun z => z i hin hib
        have atx : atI (xs.map V.int) ((i : Nat) : Int) = some (.int xs[i]) := atI_nat (by rw [List.getElem?_map, List.getElem?_eq_getElem hin]; rfl)
        have atb : atI bus ((i : Nat) : Int) = some bus[i] := atI_nat (List.getElem?_eq_getElem hin2)
        have hD4 := sE _ _ hD
        have s4 := s2.trans sE
        generalize xs[i] = vi at *
        generalize bs[i] = bi at *
        generalize bus[i] = bv at *
        have S4 := S2.same sE
        have hub4 := sE _ _ hub
        wtm_at "rd"
        refine ⟨_, .inl S4.kd, fun ik fik => ?_⟩
        have ki := Same.new (o := .dK (kvF ks k)) fik
        have hik := @upd_same H4 ik (.dK (kvF ks k))
        have fik0 := new_of_same sE fik
        have sI := sE.trans ki
        generalize upd H4 ik (.dK (kvF ks k)) = H5 at *
        wtm_at "rd"
        try rw [Int.zero_add]
        refine rd_ixL (SqL.of (ki _ _ hD4)) atx ?_
        wtm_at "rd"
        refine rd_dset hik (k := .inr x) rfl (by rw [List.length_map]; omega) ?_
        rw [kvF_new xk]
        have sJ := same_put (o := .dK (kvF (ks ++ [x]) (updf k x vi))) sI fik0
        have hik := @upd_same H5 ik (.dK (kvF (ks ++ [x]) (updf k x vi)))
        generalize upd H5 ik (.dK (kvF (ks ++ [x]) (updf k x vi))) = H6 at *
        have S6 := S2.same sJ
        have s06 := s2.trans sJ
        wtm_at "rd"
        refine rd_ixT (SqT.of (s06 _ _ hs)) (v := .ref bl) rfl ?_
        wtm_at "rd"
        try rw [Int.zero_add]
        refine rd_ixL (SqL.of (s06 _ _ hbl)) atb ?_
        wtm_at "rd"
        refine ⟨m - 1, by omega, dp, g, n, e, st, wd, ik, ub, ps, bv, bi, ns, ord, ws, pn, ks ++ [x], fr2, es, f, w, updf k x vi, rfl, ⟨S6.gs, S6.wd, hik, sJ _ _ hub, S6.ps, by omega, by rw [List.length_append]; show _ + 1 ≤ 10; omega, fun y hy => ?_, fun y hy => ?_⟩, by rw [List.length_append]; show _ + 1 + _ ≤ 10; omega, by omega, db.same s06, tk, tr, by omega, wsn, fun b3 H7 s7 hb3 => ?_⟩
        · rcases List.mem_append.mp hy with h | h
          · exact S.kn y h
          · rw [List.mem_singleton.mp h]
            exact xin
        · rw [List.length_append]
          show -(1000 * (((ks.length + 1 : Nat)) : Int)) ≤ updf k x vi y ∧ updf k x vi y ≤ 1000 * (((ks.length + 1 : Nat)) : Int)
          unfold updf
          split
          · omega
          · rename_i ny
            have := S.kb y ((List.mem_append.mp hy).resolve_right fun h => ny (List.mem_singleton.mp h))
            omega
        have s27 := sJ.trans s7
        wtm_at "rd"
        cases b3 with
        | false =>
          wtm_at "rd"
          exact q false H7 (s2.trans s27) ⟨nofun, fun z => nomatch hb3.mpr (one z)⟩
        | true =>
          wtm_at "rd"
          exact ⟨_, _, rfl, s27, all2 (hb3.mp rfl)⟩
      · rintro σ H4 ⟨u13, u14, rfl, sE, nn⟩
        wtm_at "rd"
        exact q true H4 (s2.trans sE) ⟨fun _ j h1 h2 => nn j h1 h2 (by omega), fun _ => rfl⟩
theorem ok_isBrLU {f : Addr} {fd : FuncData} (F : Fun K "_law_is_branch" "_law_is_branch" s__law_is_branch f fd) (B : Bt mg) (C : ZGb P w K mg base) (S : SelfR K mg "_law_is_branch" f fd ["_law_graph", "_law_state", "_law_wanted", "_law_branch", "_law_known", "_law_free", "_law_pins"]) : FnG P w K mg base CX0 10 f fd ["_law_graph", "_law_state", "_law_wanted", "_law_branch", "_law_known", "_law_free", "_law_pins"] (spIsBrL K 4) := by
  exact ok_isBrL F B C S 4
end
end Law


/-! k54: _law_random_wanted, _law_random_bound -/
namespace Law
open PySem PySem.Spec PyProof.Rows L2 U LamX


/-- the values wanted of some nodes -/
structure WOk (ns ws : List Str) (w : Str → Int) : Prop where
  l1 : 1 ≤ ws.length
  l3 : ws.length ≤ 3
  nd : ws.Nodup
  ok : ∀ x ∈ ws, x ∈ ns ∧ 0 ≤ w x ∧ w x ≤ 2
/-- a small bound -/
def BdS (ns : List Str) : Option Bd → Prop
  | none => True
  | some b => RawP ns 6 b.p ∧ ∀ q, b.c = some q → RawP ns 32 q.1 ∧ RawP ns 32 q.2
theorem BdS.r {ns : List Str} {b : Option Bd} (h : BdS ns b) : BdR ns b := by
  cases b with
  | none => trivial
  | some b =>
    obtain ⟨a, c⟩ : RawP ns 6 b.p ∧ ∀ q, b.c = some q → RawP ns 32 q.1 ∧ RawP ns 32 q.2 := h
    exact ⟨RawP.le' a (by decide), fun q hq => ⟨RawP.le' (c q hq).1 (by decide), RawP.le' (c q hq).2 (by decide)⟩⟩
def spRW : Sp := fun vs H Q _ => ∃ (p g n e st : Addr) (ns ord : List Str) (es : List (Addr × Str × Str)) (f : Str → Int), vs = [.ref p, .ref g, .ref st] ∧ PoolAt H p ∧ GSt H g n e st ns ord es f ∧ 1 ≤ ns.length ∧
  ∀ (wd : Addr) (ws : List Str) (w : Str → Int) (H' : Hp), Go p H H' → H wd = none → H' wd = some (.dK (kvF ws w)) → WOk ns ws w → Q (.ref wd) H'
def spRBd (K : PySem.W.Frag) (TT : List (Addr × Str)) : Sp := fun vs H Q _ => ∃ (p g n e st kd ps : Addr) (x : Str) (ns ord ks pn : List Str) (es : List (Addr × Str × Str)) (f k : Str → Int), vs = [.ref p, .ref g, .ref st, .str x, .ref kd, .ref ps] ∧ PoolAt H p ∧ GSt H g n e st ns ord es f ∧ H ps = some (.tup (pn.map V.str)) ∧ H kd = some (.dK (kvF ks k)) ∧ x ∈ ns ∧ ns.length ≤ 6 ∧ Tabs TT H ∧
  ∀ (v : V) (b : Bd) (H' : Hp), GoC TT p H H' → DgN p H' v (datBd (some b)) → BdS ns (some b) → Q v H'
section
variable {P : Program} {w : World} {K : PySem.W.Frag} {mg : Str → Option Value} {base : Heap}
structure ZIa (P : Program) (w : World) (K : PySem.W.Frag) (mg : Str → Option Value) (base : Heap) : Prop where
  _law_draw : Cal P w K mg base CX0 1 "_law_draw" spDraw
theorem ok_rw {f : Addr} {fd : FuncData} (F : Fun K "_law_random_wanted" "_law_random_wanted" s__law_random_wanted f fd) (B : Bt mg) (C : ZIa P w K mg base) : FnG P w K mg base CX0 2 f fd ["_law_source", "_law_graph", "_law_state"] spRW := by
  refine fnG0 F sc__law_random_wanted (fun vs H Q E h => ?_) (fun cdv A outer s H vs Q E hr h => ?_)
  · obtain ⟨p, g, n, e, st, ns, ord, es, f, rfl, _⟩ := h
    rfl
  · obtain ⟨p, g, n, e, st, ns, ord, es, f, rfl, hp, gs, n1, q⟩ := h
    have nd := sc__law_random_wanted.nd
    have hu := hr.u1
    refine ⟨_, (pss_cons (ps_set (i := 3) nd rfl (by first | exact Or.inl rfl | exact Or.inr rfl) pe_dnewK)
  (pss_cons (ps_for PassesOwn.never rfl (pi_range1 rfl B.range (pa_cons (pe_op (kAdd K rfl) pe_int (pe_c C._law_draw hr (by decide) rfl (pa_cons (pv 0) (pa_cons pe_int pa_nil)))) pa_nil)) (pg_name (i := 4) nd rfl (by first | exact Or.inl rfl | exact Or.inr rfl)) (pss_cons (ps_set (i := 5) nd rfl (by first | exact Or.inl rfl | exact Or.inr rfl) (pe_ix (kIx K rfl) (pe_ix (kIx K rfl) (pv 1) pe_int (fun _ _ => rfl)) (pe_c C._law_draw hr (by decide) rfl (pa_cons (pv 0) (pa_cons (pe_callB (kLen K rfl) (by rfl) B.len bb_len (pa_cons (pe_ix (kIx K rfl) (pv 1) pe_int (fun _ _ => rfl)) pa_nil)) pa_nil))) (fun _ _ => rfl)))
  (pss_one (ps_dput hu (pv 3) (pv 5) (pe_op uMod (pe_op (kAdd K rfl) (pe_dget hu (pv 2) (pv 5) (fun _ _ => rfl)) (pe_ix (kIx K rfl) (pe_lst (pa_cons pe_int (pa_cons pe_int (pa_cons pe_int (pa_cons pe_int (pa_cons pe_int pa_nil)))))) (pe_c C._law_draw hr (by decide) rfl (pa_cons (pv 0) (pa_cons pe_int pa_nil))) (fun _ _ => rfl))) pe_int) rfl))))
  (pss_one (ps_ret (pv 3))))), ?_⟩
    have l100 := gs.l2
    have x0 : Go p H H := Go.refl hp
    wtm_at "rd"
    intro wd fwd
    have npw : p ≠ wd := hp.ne fwd
    have x1 := x0.put (q := wd) (o := .dK []) fwd npw
    have hwd := @upd_same H wd (.dK [])
    generalize upd H wd (.dK []) = H1 at *
    wtm_at "rd"
    refine use_draw x1.pool (by decide) (by decide) fun r H2 r0 r3 g2 => ?_
    have hwd := g2.at hwd (Ne.symm npw)
    have x2 := x1.trans g2
    clear x1 g2 x0
    wtm_at "rd"
    refine turnsR (fun i σ H' => ∃ (ws : List Str) (w : Str → Int) (u4 u5 : Option V), σ = [some (.ref p), some (.ref g), some (.ref st), some (.ref wd), u4, u5] ∧ Go p H H' ∧ H' wd = some (.dK (kvF ws w)) ∧ ws.length ≤ i ∧ (0 < i → 1 ≤ ws.length) ∧ ws.Nodup ∧ ∀ x ∈ ws, x ∈ ns ∧ 0 ≤ w x ∧ w x ≤ 2) ⟨[], fun _ => 0, _, _, rfl, x2, hwd, Nat.zero_le _, (fun z => absurd z (Nat.lt_irrefl _)), List.nodup_nil, fun x h => nomatch h⟩ ?_ ?_
    · rintro i σ H3 hi ⟨ws, w, u4, u5, rfl, x3, hw, wl, w1, wn, wok⟩
      have gs3 := gs.go hp x3
      wtm_at "rd"
      refine rd_ixT (SqT.of gs3.gr.top) (v := .ref n) rfl ?_
      wtm_at "rd"
      refine rd_ixT (SqT.of gs3.gr.top) (v := .ref n) rfl ?_
      wtm_at "rd"
      refine rd_lenT (SqT.of gs3.gr.nodes) ?_
      rw [List.length_map]
      wtm_at "rd"
      refine use_draw x3.pool (by omega) (by omega) fun j H4 j0 j1 g4 => ?_
      obtain ⟨j, rfl⟩ := Int.eq_ofNat_of_zero_le j0
      have hj : j < ns.length := by omega
      have gs4 := gs3.go x3.pool g4
      have hw := g4.at hw (Ne.symm npw)
      have x4 := x3.trans g4
      clear x3 g4
      wtm_at "rd"
      refine rd_ixT (SqT.of gs4.gr.nodes) (v := .str ns[j]) (atI_nat (by rw [List.getElem?_map, List.getElem?_eq_getElem hj]; rfl)) ?_
      have xin : ns[j] ∈ ns := List.getElem_mem hj
      generalize ns[j] = x at *
      wtm_at "rd"
      refine rd_dat (.inl gs4.st) (kvF_val (gs4.inO _ xin)) rfl ?_
      wtm_at "rd"
      intro l fl
      have npl := x4.pool.ne fl
      have hl := @upd_same H4 l (.lst [.int 0, .int 1, .int 2, .int 1, .int 2])
      have kl := Same.new (o := .lst [.int 0, .int 1, .int 2, .int 1, .int 2]) fl
      have hw := kl _ _ hw
      have x5 := x4.new (o := .lst [.int 0, .int 1, .int 2, .int 1, .int 2]) fl
      generalize upd H4 l (.lst [.int 0, .int 1, .int 2, .int 1, .int 2]) = H5 at *
      wtm_at "rd"
      refine use_draw x5.pool (by decide) (by decide) fun i5 H6 i0 i1 g6 => ?_
      have hl := g6.at hl (Ne.symm npl)
      have hw := g6.at hw (Ne.symm npw)
      have x6 := x5.trans g6
      have c5 : i5 = 0 ∨ i5 = 1 ∨ i5 = 2 ∨ i5 = 3 ∨ i5 = 4 := by omega
      obtain ⟨v, hv⟩ : ∃ v : Int, atI ([.int 0, .int 1, .int 2, .int 1, .int 2] : List V) i5 = some (.int v) := by
        rcases c5 with rfl | rfl | rfl | rfl | rfl
        · exact ⟨0, rfl⟩
        · exact ⟨1, rfl⟩
        · exact ⟨2, rfl⟩
        · exact ⟨1, rfl⟩
        · exact ⟨2, rfl⟩
      refine rd_ixL (SqL.of hl) hv ?_
      wtm_at "rd"
      refine rd_dset hw (k := .inr x) rfl (by rw [List.length_map]; omega) ?_
      have vm : 0 ≤ (f x + v) % 3 ∧ (f x + v) % 3 ≤ 2 := by omega
      generalize (f x + v) % 3 = vv at *
      by_cases xw : x ∈ ws
      · rw [kvF_put xw]
        refine ⟨ws, updf w x vv, _, _, rfl, x6.put fwd npw, upd_same, by omega, fun _ => by
          cases ws with
          | nil => cases xw
          | cons _ _ => exact Nat.succ_pos _, wn, fun y hy => ?_⟩
        unfold updf
        split
        · rename_i e
          rw [e]
          exact ⟨xin, vm⟩
        · exact wok y hy
      · rw [kvF_new xw]
        refine ⟨ws ++ [x], updf w x vv, _, _, rfl, x6.put fwd npw, upd_same, by rw [List.length_append]; show _ + 1 ≤ _; omega, fun _ => by rw [List.length_append]; show 1 ≤ _ + 1; omega, ?_, fun y hy => ?_⟩
        · rw [List.nodup_append]
          exact ⟨wn, List.nodup_cons.mpr ⟨List.not_mem_nil, List.nodup_nil⟩, fun a ha b hb e => xw (by rw [← List.mem_singleton.mp hb, ← e]; exact ha)⟩
        unfold updf
        split
        · rename_i e
          rw [e]
          exact ⟨xin, vm⟩
        · rename_i ne
          exact wok y ((List.mem_append.mp hy).resolve_right fun h => ne (List.mem_singleton.mp h))
    · rintro σ H3 ⟨ws, w, u4, u5, rfl, x3, hw, wl, w1, wn, wok⟩
      wtm_at "rd"
      exact q wd ws w H3 x3 fwd hw ⟨w1 (by omega), by omega, wn, wok⟩
structure ZIb (P : Program) (w : World) (K : PySem.W.Frag) (mg : Str → Option Value) (base : Heap) (TT : List (Addr × Str)) : Prop where
  _law_draw : Cal P w K mg base CX0 1 "_law_draw" spDraw
  frozen_certificate : CalK P w K mg base CX0 7 "frozen_certificate" 3 ["pinned"] (spFcer K TT)
theorem ok_rbd {f : Addr} {fd : FuncData} {TT : List (Addr × Str)} (F : Fun K "_law_random_bound" "_law_random_bound" s__law_random_bound f fd) (B : Bt mg) (C : ZIb P w K mg base TT) : FnG P w K mg base CX0 8 f fd ["_law_source", "_law_graph", "_law_state", "_law_node", "_law_known", "_law_pins"] (spRBd K TT) := by
  refine fnG0 F sc__law_random_bound (fun vs H Q E h => ?_) (fun cdv A outer s H vs Q E hr h => ?_)
  · obtain ⟨p, g, n, e, st, kd, ps, x, ns, ord, ks, pn, es, f, k, rfl, _⟩ := h
    rfl
  · have hu65 : (A.deeper (envOfC "_law_random_bound" (defScope s__law_random_bound) s.heap.objs.size f cdv)).units + 65 < cLine := by
      have := hr.u100
      omega
    obtain ⟨p, g, n, e, st, kd, ps, x, ns, ord, ks, pn, es, f, k, rfl, hp, gs, hps, hkd, xin, n6, tabs, q⟩ := h
    have nd := sc__law_random_bound.nd
    have hu := hr.u1
    refine ⟨_, (pss_cons (ps_set (i := 6) nd rfl (by first | exact Or.inl rfl | exact Or.inr rfl) (pe_lst (pa_cons (pv 3) pa_nil)))
  (pss_cons (ps_for PassesOwn.never rfl (pi_range1 rfl B.range (pa_cons (pe_callB (cMin rfl) (by rfl) B.min bb_min (pa_cons (pe_c C._law_draw hr (by decide) rfl (pa_cons (pv 0) (pa_cons pe_int pa_nil))) (pa_cons (pe_c C._law_draw hr (by decide) rfl (pa_cons (pv 0) (pa_cons pe_int pa_nil))) pa_nil))) pa_nil)) (pg_name (i := 7) nd rfl (by first | exact Or.inl rfl | exact Or.inr rfl)) (pss_cons (ps_setLc (i := 8) (own := [("_law_one", 9)]) rfl nd rfl rfl (sw_true rfl rfl rfl (by decide +kernel)) (ki_tup K rfl (pe_ix (kIx K rfl) (pv 1) pe_int (fun _ _ => rfl))) (blkOk_by (own := [("_law_one", 9)]) (N := nN__law_random_bound) (sc := defScope s__law_random_bound) (by decide +kernel)) (fun _ _ _ _ _ => (pg_name (i := 9) nd rfl (by first | exact Or.inl rfl | exact Or.inr rfl))) (fun _ _ _ _ _ => (pts_one (pt_cmpR (kInT K rfl hu65) (pe_callTy (kTuple K rfl) (by rfl) B.tuple bb_tuple (pa_cons (pe_callB (kSorted K rfl hr.u64) (by rfl) B.sorted bb_sorted (pa_cons (pe_lst (pa_cons (pv 9) (pa_cons (pe_ix (kIx K rfl) (pv 6) pe_int (fun _ _ => rfl)) pa_nil))) pa_nil)) pa_nil)) (pe_ix (kIx K rfl) (pv 1) pe_int (fun _ _ => rfl)) rfl))) (fun _ _ _ _ _ => (pv 9)))
  (C8.pss_cut (ps_if (pt_cmpR (kNe K rfl hr.u64) (pv 8) (pe_lst pa_nil) (nomark _)) (pss_one (ps_set (i := 6) nd rfl (by first | exact Or.inl rfl | exact Or.inr rfl) (pe_op (kAdd K rfl) (pe_lst (pa_cons (pe_ix (kIx K rfl) (pv 8) (pe_c C._law_draw hr (by decide) rfl (pa_cons (pv 0) (pa_cons (pe_callB (kLen K rfl) (by rfl) B.len bb_len (pa_cons (pv 8) pa_nil)) pa_nil))) (fun _ _ => rfl)) pa_nil)) (pv 6)))) pss_nil)
  (pss_one (ps_if (PW.pt (pw_and (pt_cmp (pc_din hu (pe_ix (kIx K rfl) (pv 6) pe_int (fun _ _ => rfl)) (pv 4))) (pw_and1 (pt_cmpR (kEq K rfl hr.u64) (pe_c C._law_draw hr (by decide) rfl (pa_cons (pv 0) (pa_cons pe_int pa_nil))) pe_int (nomark _))))) (pss_one (ps_ret (pe_tup (pa_cons (pv 6) (pa_cons pe_non pa_nil))))) pss_nil)))))
  (C8.pss_cut (ps_if (PW.pt (pw_and (pt_cmp (pc_din hu (pe_ix (kIx K rfl) (pv 6) pe_int (fun _ _ => rfl)) (pv 4))) (pw_and1 (pt_cmpR uGt (pe_c C._law_draw hr (by decide) rfl (pa_cons (pv 0) (pa_cons pe_int pa_nil))) pe_int (nomark _))))) (pss_one (ps_ret (pe_tup (pa_cons (pv 6) (pa_cons pe_non pa_nil))))) pss_nil)
  (C8.pss_cut (ps_set (i := 10) nd rfl (by first | exact Or.inl rfl | exact Or.inr rfl) (pe_ifExp (pt_cmpR (kEq K rfl hr.u64) (pe_c C._law_draw hr (by decide) rfl (pa_cons (pv 0) (pa_cons pe_int pa_nil))) pe_int (nomark _)) (pe_ix (kIx K rfl) (pe_ix (kIx K rfl) (pv 1) pe_int (fun _ _ => rfl)) (pe_c C._law_draw hr (by decide) rfl (pa_cons (pv 0) (pa_cons (pe_callB (kLen K rfl) (by rfl) B.len bb_len (pa_cons (pe_ix (kIx K rfl) (pv 1) pe_int (fun _ _ => rfl)) pa_nil)) pa_nil))) (fun _ _ => rfl)) (pe_ix (kIx K rfl) (pv 6) pe_int (fun _ _ => rfl))))
  (pss_one (ps_ret (pe_tup (pa_cons (pv 6) (pa_cons (pe_cK C.frozen_certificate hr (by decide) rfl pass0 (pa_cons (pv 1) (pa_cons (pv 2) (pa_cons (pv 10) pa_nil))) (pk_cons (pv 5) pk_nil)) pa_nil))))))))), ?_⟩
    have l100 := gs.l2
    have n1 : 1 ≤ ns.length := List.length_pos_of_mem xin
    have x0 : GoC TT p H H := GoC.refl hp tabs
    wtm_at "rd"
    intro pa fpa
    have npa : pa ≠ p := x0.pool.offN fpa
    have kpa := Same.new (o := .lst [.str x]) fpa
    have hpa := @upd_same H pa (.lst [.str x])
    have x0 := x0.same kpa
    generalize upd H pa (.lst [.str x]) = H1 at hpa x0
    clear kpa fpa
    wtm_at "rd"
    refine use_draw x0.pool (by decide) (by decide) fun r1 H2 r10 r11 g2 => ?_
    have hpa := g2.at hpa npa
    have x2 := x0.go g2
    wtm_at "rd"
    refine use_draw x2.pool (by decide) (by decide) fun r2 H3 r20 r21 g3 => ?_
    have hpa := g3.at hpa npa
    have x3 := x2.go g3
    clear x2 x0 g2 g3
    wtm_at "rd"
    have sok := gs.sok
    have ret : ∀ (HX : Hp) (pl : Addr) (path : List Str), GoC TT p H HX → HX pl = some (.lst (path.map V.str)) → pl ≠ p → RawP ns 6 path → ∀ t, HX t = none → Q (.ref t) (upd HX t (.tup [.ref pl, .non])) := fun HX pl path xX hX nX rp t ft => by
      have kt := Same.new (o := .tup [.ref pl, .non]) ft
      have xY := xX.same kt
      refine q _ ⟨path, none⟩ _ xY ?_ ⟨rp, fun q h => nomatch h⟩
      exact .tup upd_same (.cons (.lst nX (kt _ _ hX) (dgN_strs _)) (.cons (.atm (.inl rfl)) .nil))
    refine turnsR (fun i σ H' => ∃ (pl : Addr) (path : List Str) (u7 u8 : Option V), σ = [some (.ref p), some (.ref g), some (.ref st), some (.str x), some (.ref kd), some (.ref ps), some (.ref pl), u7, u8, none, none] ∧ GoC TT p H H' ∧ H' pl = some (.lst (path.map V.str)) ∧ pl ≠ p ∧ 1 ≤ path.length ∧ path.length ≤ i + 1 ∧ ∀ y ∈ path, y ∈ ns) ⟨pa, [x], _, _, rfl, x3, hpa, npa, Nat.le_refl 1, Nat.le_refl 1, fun y hy => by rw [List.mem_singleton.mp hy]; exact xin⟩ ?_ ?_
    · rintro i σ H4 hi ⟨pl, path, u7, u8, rfl, x4, hpl, npl, p1, p6, pin⟩
      have gs4 := gs.goN hp x4.n
      have i5 : i < 5 := by omega
      obtain ⟨c, ec, cm⟩ := head_ofD p1
      have cin := pin c cm
      have a0 : atI (path.map V.str) 0 = some (.str c) := atI_hd ec
      wtm_at "rd"
      refine rd_ixT (SqT.of gs4.gr.top) (v := .ref n) rfl ?_
      refine rd_forT (SqT.of gs4.gr.nodes) ?_
      intro D fD
      have nDp := x4.pool.offN fD
      refine lcT (K := K) (xs := ns.map V.str) (fun j H' => Same H4 H' ∧ H' D = some (.lst (((ns.take j).filter fun o => decide (eOf o c ∈ es.map (·.2))).map V.str))) ⟨Same.new fD, upd_same⟩ ?_ ?_ ?_
      · rintro j H' hj ⟨s, _⟩
        exact SqT.of (s _ _ gs4.gr.nodes)
      · rintro j y H' hy ⟨s, hD⟩
        obtain ⟨hj, rfl⟩ := map_at hy
        have len : ((ns.take j).filter fun o => decide (eOf o c ∈ es.map (·.2))).length ≤ 100 := Nat.le_trans (List.length_filter_le _ _) (by rw [List.length_take]; omega)
        rw [take_snoc hj, List.filter_append, List.map_append]
        have oin : ns[j] ∈ ns := List.getElem_mem hj
        generalize ns[j] = o at *
        wtm_at "rd"
        refine rd_ixL (SqL.of (s _ _ hpl)) a0 ?_
        wtm_at "rd"
        intro t1 ft1
        have k1 := Same.new (o := .lst [.str o, .str c]) ft1
        refine rd_sortS (xs := [o, c]) (SqL.of upd_same) (by show 2 ≤ 100000; decide) ?_
        intro ys py sy t2 ft2
        have k2 := Same.new (o := .lst (ys.map V.str)) ft2
        wtm_at "rd"
        refine rd_tupleL (SqL.of upd_same) ?_
        intro t3 ft3
        have k3 := Same.new (o := .tup (ys.map V.str)) ft3
        have sA := (k1.trans k2).trans k3
        have h3 := @upd_same (upd (upd H' t1 (.lst [.str o, .str c])) t2 (.lst (ys.map V.str))) t3 (.tup (ys.map V.str))
        generalize upd (upd (upd H' t1 (.lst [.str o, .str c])) t2 (.lst (ys.map V.str))) t3 (.tup (ys.map V.str)) = Ha at sA h3
        rw [sort2gS py sy] at h3
        have hD := sA _ _ hD
        have s := s.trans sA
        have gsA := gs4.same s
        wtm_at "rd"
        refine rd_ixT (SqT.of gsA.gr.top) (v := .ref e) rfl ?_
        refine rd_inTE (e := eOf o c) (SqT.of h3) (SqT.of gsA.gr.edges) (fun x hx => SqT.of (gsA.gr.pairs x hx)) (by
          rcases eOf_cases o c with z | z <;> rw [z]
          · exact ⟨sok _ oin, sok _ cin⟩
          · exact ⟨sok _ cin, sok _ oin⟩) (fun x hx => ⟨sok _ (gs.ok.mem x hx).1, sok _ (gs.ok.mem x hx).2⟩) ?_
        wtm_at "rd"
        refine rd_split (fun c1 => ?_) (fun c1 => ?_)
        · wtm_at "rd"
          refine rd_acc hD (by rw [List.length_map]; omega) ?_
          refine ⟨same_put s fD, ?_⟩
          rw [upd_same, List.filter_cons, decide_eq_true c1]
          rfl
        · refine ⟨s, ?_⟩
          rw [show ([o].filter fun o => decide (eOf o c ∈ es.map (·.2))) = [] from by rw [List.filter_cons, decide_eq_false c1]; rfl, List.map_nil, List.append_nil]
          exact hD
      rintro H5 ⟨s5, hD⟩
      rw [List.length_map, List.take_length] at hD
      have len : (ns.filter fun o => decide (eOf o c ∈ es.map (·.2))).length ≤ 100 := Nat.le_trans (List.length_filter_le _ _) (by omega)
      have nin : ∀ y ∈ ns.filter (fun o => decide (eOf o c ∈ es.map (·.2))), y ∈ ns := fun y hy => (List.mem_filter.mp hy).1
      generalize (ns.filter fun o => decide (eOf o c ∈ es.map (·.2))) = near at *
      have x5 := x4.same s5
      have hpl := s5 _ _ hpl
      clear x4 s5 gs4 a0
      wtm_at "rd"
      refine ⟨fun σ' H' => ∃ (pl : Addr) (path : List Str) (u7 : Option V), σ' = [some (.ref p), some (.ref g), some (.ref st), some (.str x), some (.ref kd), some (.ref ps), some (.ref pl), u7, some (.ref D), none, none] ∧ GoC TT p H H' ∧ H' pl = some (.lst (path.map V.str)) ∧ pl ≠ p ∧ 1 ≤ path.length ∧ path.length ≤ i + 2 ∧ ∀ y ∈ path, y ∈ ns, ?_, ?_⟩
      · wtm_at "rd"
        intro k0 fk0
        have kk0 := Same.new (o := .lst []) fk0
        have hk0 := @upd_same H5 k0 (.lst [])
        have hD := kk0 _ _ hD
        have hpl := kk0 _ _ hpl
        have x5 := x5.same kk0
        generalize upd H5 k0 (.lst []) = H6 at hk0 hD hpl x5
        clear kk0 fk0
        refine rd_neNil (SqL.of hD) (SqL.of hk0) (fun z hz => sok z (nin z hz)) ?_
        cases near with
        | nil =>
          rw [show (!([] : List Str).isEmpty) = false from rfl]
          wtm_at "rd"
          exact ⟨pl, path, _, rfl, x5, hpl, npl, p1, by omega, pin⟩
        | cons z r =>
          rw [show (!(z :: r).isEmpty) = true from rfl]
          wtm_at "rd"
          refine rd_lenL (SqL.of hD) ?_
          rw [List.length_map]
          wtm_at "rd"
          refine use_draw x5.pool (by rw [List.length_cons]; omega) (by omega) fun j H7 j0 j1 g7 => ?_
          obtain ⟨j, rfl⟩ := Int.eq_ofNat_of_zero_le j0
          have hj : j < (z :: r).length := by omega
          have hD := g7.at hD nDp
          have hpl := g7.at hpl npl
          have x7 := x5.go g7
          wtm_at "rd"
          refine rd_ixL (SqL.of hD) (v := .str (z :: r)[j]) (atI_nat (by rw [List.getElem?_map, List.getElem?_eq_getElem hj]; rfl)) ?_
          have oin := nin _ (List.getElem_mem hj)
          generalize (z :: r)[j] = o at *
          wtm_at "rd"
          intro l1 fl1
          have kl1 := Same.new (o := .lst [.str o]) fl1
          have hl1 := @upd_same H7 l1 (.lst [.str o])
          have hpl := kl1 _ _ hpl
          have x7 := x7.same kl1
          generalize upd H7 l1 (.lst [.str o]) = H8 at hl1 hpl x7
          clear kl1 fl1
          wtm_at "rd"
          refine rd_catL hl1 hpl (by rw [List.length_map]; show 1 + _ ≤ _; omega) ?_
          rw [show [V.str o] ++ path.map V.str = (o :: path).map V.str from rfl]
          intro l2 fl2
          have nl2 : l2 ≠ p := x7.pool.offN fl2
          have kl2 := Same.new (o := .lst ((o :: path).map V.str)) fl2
          have hl2 := @upd_same H8 l2 (.lst ((o :: path).map V.str))
          have x7 := x7.same kl2
          generalize upd H8 l2 (.lst ((o :: path).map V.str)) = H9 at hl2 x7
          clear kl2 fl2
          wtm_at "rd"
          exact ⟨l2, o :: path, _, rfl, x7, hl2, nl2, Nat.succ_pos _, by rw [List.length_cons]; omega, fun y hy => by
            rcases List.mem_cons.mp hy with rfl | hy
            · exact oin
            · exact pin y hy⟩
      clear hpl npl p1 p6 pin x5 ec cm cin
      rintro σ' H6 ⟨pl, path, u7, rfl, x6, hpl, npl, p1, p6, pin⟩
      obtain ⟨c, ec, cm⟩ := head_ofD p1
      have a0 : atI (path.map V.str) 0 = some (.str c) := atI_hd ec
      wtm_at "rd"
      refine rd_ixL (SqL.of hpl) a0 ?_
      wtm_at "rd"
      refine rd_din1 (.inl (x6.n.dk hp hkd)) (k := .inr c) rfl ?_
      by_cases ck : c ∈ ks
      · rw [kvF_val ck]
        wtm_at "rd"
        try refine rd_bl ?_
        try refine rd_T ?_
        wtm_at "rd"
        refine use_draw x6.pool (by decide) (by decide) fun b H7 b0 b1 g7 => ?_
        have hpl := g7.at hpl npl
        have x7 := x6.go g7
        wtm_at "rd"
        refine rd_split (fun c2 => ?_) (fun c2 => ?_)
        · wtm_at "rd"
          intro t ft
          exact ret H7 pl path x7 hpl npl ⟨p1, by omega, pin⟩ t ft
        · wtm_at "rd"
          exact ⟨pl, path, _, _, rfl, x7, hpl, npl, p1, by omega, pin⟩
      · rw [kvF_none ck]
        wtm_at "rd"
        try refine rd_bl ?_
        try refine rd_F ?_
        wtm_at "rd"
        exact ⟨pl, path, _, _, rfl, x6, hpl, npl, p1, by omega, pin⟩
    · rintro σ H4 ⟨pl, path, u7, u8, rfl, x4, hpl, npl, p1, p6, pin⟩
      have rp : RawP ns 6 path := ⟨p1, by omega, pin⟩
      obtain ⟨c, ec, cm⟩ := head_ofD p1
      have a0 : atI (path.map V.str) 0 = some (.str c) := atI_hd ec
      wtm_at "rd"
      refine ⟨fun σ' H' => σ' = [some (.ref p), some (.ref g), some (.ref st), some (.str x), some (.ref kd), some (.ref ps), some (.ref pl), u7, u8, none, none] ∧ GoC TT p H H' ∧ H' pl = some (.lst (path.map V.str)), ?_, ?_⟩
      · wtm_at "rd"
        refine rd_ixL (SqL.of hpl) a0 ?_
        wtm_at "rd"
        refine rd_din1 (.inl (x4.n.dk hp hkd)) (k := .inr c) rfl ?_
        by_cases ck : c ∈ ks
        · rw [kvF_val ck]
          wtm_at "rd"
          try refine rd_bl ?_
          try refine rd_T ?_
          wtm_at "rd"
          refine use_draw x4.pool (by decide) (by decide) fun b H7 b0 b1 g7 => ?_
          have hpl := g7.at hpl npl
          have x7 := x4.go g7
          wtm_at "rd"
          refine rd_split (fun c2 => ?_) (fun c2 => ?_)
          · wtm_at "rd"
            intro t ft
            exact ret H7 pl path x7 hpl npl rp t ft
          · exact ⟨rfl, x7, hpl⟩
        · rw [kvF_none ck]
          wtm_at "rd"
          try refine rd_bl ?_
          try refine rd_F ?_
          exact ⟨rfl, x4, hpl⟩
      clear x4 hpl
      rintro σ' H5 ⟨rfl, x5, hpl⟩
      wtm_at "rd"
      refine ⟨fun σ' H' => ∃ fs : Str, σ' = [some (.ref p), some (.ref g), some (.ref st), some (.str x), some (.ref kd), some (.ref ps), some (.ref pl), u7, u8, none, some (.str fs)] ∧ GoC TT p H H' ∧ H' pl = some (.lst (path.map V.str)) ∧ fs ∈ ns, ?_, ?_⟩
      · wtm_at "rd"
        refine use_draw x5.pool (by decide) (by decide) fun b H7 b0 b1 g7 => ?_
        have hpl := g7.at hpl npl
        have x7 := x5.go g7
        wtm_at "rd"
        refine rd_split (fun c2 => ?_) (fun c2 => ?_)
        · have gs7 := gs.goN hp x7.n
          wtm_at "rd"
          refine rd_ixT (SqT.of gs7.gr.top) (v := .ref n) rfl ?_
          wtm_at "rd"
          refine rd_ixT (SqT.of gs7.gr.top) (v := .ref n) rfl ?_
          wtm_at "rd"
          refine rd_lenT (SqT.of gs7.gr.nodes) ?_
          rw [List.length_map]
          wtm_at "rd"
          refine use_draw x7.pool (by omega) (by omega) fun j H8 j0 j1 g8 => ?_
          obtain ⟨j, rfl⟩ := Int.eq_ofNat_of_zero_le j0
          have hj : j < ns.length := by omega
          have gs8 := gs7.go x7.pool g8
          have hpl := g8.at hpl npl
          wtm_at "rd"
          refine rd_ixT (SqT.of gs8.gr.nodes) (v := .str ns[j]) (atI_nat (by rw [List.getElem?_map, List.getElem?_eq_getElem hj]; rfl)) ?_
          wtm_at "rd"
          exact ⟨_, rfl, x7.go g8, hpl, List.getElem_mem hj⟩
        · wtm_at "rd"
          refine rd_ixL (SqL.of hpl) a0 ?_
          wtm_at "rd"
          exact ⟨c, rfl, x7, hpl, pin c cm⟩
      clear x5 hpl
      rintro σ' H6 ⟨fs, rfl, x6, hpl, fin⟩
      wtm_at "rd"
      refine ⟨g, n, e, st, ps, fs, ns, ord, pn, es, f, rfl, gs.goN hp x6.n, fin, SqT.of (sqT_gon (K := K) hps hp x6.n), x6.tabs, fun v H7 xE tE alt => ?_⟩
      have x7 := x6.ext xE tE
      have hpl := ExtN.li xE hpl
      wtm_at "rd"
      intro t ft
      rcases alt with ⟨rfl, _⟩ | ⟨t2, a, b, p1', p2', rfl, ht2, ha, hb, c1, c2, _⟩
      · exact ret H7 pl path x7 hpl npl rp t ft
      · have lens : ∀ {dir : Int} {q : List Str}, CerP ns (es.map (·.2)) f pn dir fs q → RawP ns 32 q := fun {_ q2} h => ⟨by
          have := h.hd
          cases q2 with
          | nil => cases this
          | cons _ _ => exact Nat.succ_pos _, by have := h.ln; omega, h.in_⟩
        have r1 := lens c1
        have r2 := lens c2
        have off : ∀ {q : List Str} {a : Addr}, RawP ns 32 q → H7 a = some (.lst (q.map V.str)) → a ≠ p := fun {q a} r h e => by
          obtain ⟨c, ys, pos, big, seed, h2, _⟩ := x7.pool
          rw [e, h2] at h
          have := r.pos
          cases q with
          | nil => cases this
          | cons x r => cases HO.lst.inj (Option.some.inj h)
        have na := off r1 ha
        have nb := off r2 hb
        have kt := Same.new (o := .tup [.ref pl, .ref t2]) ft
        have xY := x7.same kt
        refine q _ ⟨path, some (p1', p2')⟩ _ xY ?_ ⟨rp, fun q h => by cases h; exact ⟨r1, r2⟩⟩
        exact .tup upd_same (.cons (.lst npl (kt _ _ hpl) (dgN_strs _)) (.cons (.tup (kt _ _ ht2) (.cons (.lst na (kt _ _ ha) (dgN_strs _)) (.cons (.lst nb (kt _ _ hb) (dgN_strs _)) .nil))) .nil))
end
end Law


/-! k54: _law_random_branch -/
namespace U
open PySem PySem.Spec PyProof.Rows L2
theorem bnd_bd5 {ns : List Str} {es : List (Str × Str)} {f : Str → Int} {pn : List Str} {fc : Str → List Str × List Str → Prop} {ks : List Str} {k : Str → Int} {fr : List Str} {x : Str} {dir i : Int} {b : Bd} {m : Nat} (kb : ∀ y ∈ ks, -(5 * (m : Int)) ≤ k y ∧ k y ≤ 5 * (m : Int)) (hd : dir = 1 ∨ dir = -1) (p6 : b.p.length ≤ 6) (h : bndN ns es f pn fc ks k fr x dir (some b) = some i) : -(5 * ((m : Int) + 1)) ≤ i ∧ i ≤ 5 * ((m : Int) + 1) := by
  have l2 : stN f dir b.p ≤ b.p.length - 1 := (st_sum hd).1
  unfold bndN at h
  dsimp only at h
  split at h
  · cases h
  · split at h
    · split at h
      · split at h
        · rename_i yk
          cases h
          have := kb _ yk
          rcases hd with rfl | rfl <;> omega
        · cases h
      · split at h
        · cases h
          rcases hd with rfl | rfl <;> omega
        · cases h
    · cases h
def szB : Nat → Nat
  | 0 => 60
  | m + 1 => 1500 + (szB m + 1) * (10 * (3 - m) + 2)
theorem szB_lo : ∀ {m : Nat}, 60 ≤ szB m
  | 0 => Nat.le_refl _
  | m + 1 => by
    unfold szB
    omega
theorem szB_3 {m : Nat} (h : m ≤ 3) : szB m ≤ 2 ^ 20 - 2000 := by
  rcases (by omega : m = 0 ∨ m = 1 ∨ m = 2 ∨ m = 3) with rfl | rfl | rfl | rfl <;> decide
theorem smA : SmD 8 0 (.str "a") := .strS (by decide +kernel) (by rw [PyData.bulk]; decide +kernel)
theorem sm3 : SmD 8 0 (.int 3) := ⟨by decide +kernel, by decide +kernel, by decide +kernel, by decide +kernel, by decide +kernel⟩
theorem datTs_eq : ∀ {bs : List BrT}, datTs bs = bs.map datT
  | [] => by simp [datTs]
  | t :: r => by simp [datTs, datTs_eq (bs := r)]
theorem dps_le {n : Nat} : ∀ {bs : List BrT}, (∀ t ∈ bs, BrT.dp t ≤ n) → BrT.dps bs ≤ n
  | [], _ => by simp [BrT.dps]
  | a :: r, h => by
    simp only [BrT.dps]
    have := h a List.mem_cons_self
    have := dps_le (bs := r) fun t ht => h t (List.mem_cons_of_mem _ ht)
    omega
theorem oks_of : ∀ {bs : List BrT}, (∀ t ∈ bs, BrT.ok t) → BrT.oks bs
  | [], _ => by simp [BrT.oks]
  | a :: r, h => by
    simp only [BrT.oks]
    exact ⟨h a List.mem_cons_self, oks_of fun t ht => h t (List.mem_cons_of_mem _ ht)⟩
end U
namespace Law
open PySem PySem.Spec PyProof.Rows L2 U LamX


theorem bdS_sm {ns : List Str} (nm : ∀ x ∈ ns, IsName x) {b : Option Bd} (h : BdS ns b) : SmD 700 10 (datBd b) := by
  have ls : ∀ {n : Nat} {q : List Str}, RawP ns n q → SmD (9 * n) 10 (.list (q.map PyData.str)) := fun r => (SmD.lst (SmDs.names fun x hx => nm x (r.in_ x hx))).mono (Nat.mul_le_mul_left _ r.le) (by omega)
  have ls2 : ∀ {n : Nat} {q : List Str}, RawP ns n q → SmD (9 * n) 8 (.list (q.map PyData.str)) := fun r => (SmD.lst (SmDs.names fun x hx => nm x (r.in_ x hx))).mono (Nat.mul_le_mul_left _ r.le) (by omega)
  cases b with
  | none => exact smn.mono (by omega) (by omega)
  | some b =>
    obtain ⟨r, c⟩ : RawP ns 6 b.p ∧ ∀ q, b.c = some q → RawP ns 32 q.1 ∧ RawP ns 32 q.2 := h
    show SmD 700 10 (.tuple [.list (b.p.map PyData.str), datC b.c])
    have l1 : SmD (9 * 6) 9 (.list (b.p.map PyData.str)) := (ls2 r).mono (Nat.le_refl _) (by omega)
    have l2 : SmD 600 9 (datC b.c) := by
      cases ec : b.c with
      | none => exact smn.mono (by omega) (by omega)
      | some q =>
        obtain ⟨r1, r2⟩ := c q ec
        exact (SmD.tup (SmDs.consM (ls2 r1) (SmDs.consM (ls2 r2) (SmDs.nil.le (Nat.le_refl 0) (by omega))))).mono (by omega) (by omega)
    exact (SmD.tup (SmDs.consM l1 (SmDs.consM l2 (SmDs.nil.le (Nat.le_refl 0) (by omega))))).mono (by omega) (by omega)
/-- a drawn tree -/
structure GenB (ns : List Str) (p : Addr) (m : Nat) (H : Hp) (v : V) (T : BrT) : Prop where
  dg : DgN p H v (datT T)
  ok : T.ok
  raw : BrT.raw ns T
  dp : T.dp ≤ m + 1
  sm : SmD (szB m) (2 * m + 12) (datT T)
def spRBr (TT : List (Addr × Str)) (m : Nat) : Sp := fun vs H Q _ => ∃ (p g n e st wd kd ps : Addr) (ns ord ws ks pn : List Str) (es : List (Addr × Str × Str)) (f w k : Str → Int), vs = [.ref p, .ref g, .ref st, .ref wd, .ref kd, .ref ps] ∧ PoolAt H p ∧ GSt H g n e st ns ord es f ∧ H ps = some (.tup (pn.map V.str)) ∧ H wd = some (.dK (kvF ws w)) ∧ WOk ns ws w ∧ H kd = some (.dK (kvF ks k)) ∧ (∀ y ∈ ks, y ∈ ws) ∧ ks.Nodup ∧ ws.length = ks.length + m ∧ (∀ y ∈ ks, -(5 * (ks.length : Int)) ≤ k y ∧ k y ≤ 5 * (ks.length : Int)) ∧ ns.length ≤ 6 ∧ Tabs TT H ∧
  ∀ (v : V) (T : BrT) (H' : Hp), GoC TT p H H' → GenB ns p m H' v T → Q v H'
section
variable {P : Program} {w : World} {K : PySem.W.Frag} {mg : Str → Option Value} {base : Heap}
structure ZJa (P : Program) (w : World) (K : PySem.W.Frag) (mg : Str → Option Value) (base : Heap) (TT : List (Addr × Str)) : Prop where
  _law_draw : Cal P w K mg base CX0 1 "_law_draw" spDraw
  _law_random_bound : Cal P w K mg base CX0 8 "_law_random_bound" (spRBd K TT)
  _law_bound : Cal P w K mg base CX0 5 "_law_bound" (spBndL K)
theorem ok_rbr {f : Addr} {fd : FuncData} {TT : List (Addr × Str)} (F : Fun K "_law_random_branch" "_law_random_branch" s__law_random_branch f fd) (B : Bt mg) (C : ZJa P w K mg base TT) (S : SelfR K mg "_law_random_branch" f fd ["_law_source", "_law_graph", "_law_state", "_law_wanted", "_law_known", "_law_pins"]) : ∀ m : Nat, FnG P w K mg base CX0 (m + 9) f fd ["_law_source", "_law_graph", "_law_state", "_law_wanted", "_law_known", "_law_pins"] (spRBr TT m) := by
  intro m
  induction m using Nat.strongRecOn with
  | ind m ih =>
  have cal : Cal P w K mg base CX0 (m + 8) "_law_random_branch" (fun vs H Q E => ∃ j, j < m ∧ spRBr TT j vs H Q E) := ⟨f, fd, _, ⟨fun vs H Q E h => by
    obtain ⟨j, hj, h⟩ := h
    exact (ih j hj).len vs H Q E h, fun A outer s H args us vs Q E hr he hb hv h => by
    obtain ⟨j, hj, h⟩ := h
    exact (ih j hj).go A outer s H args us vs Q E (hr.mono (by omega)) he hb hv h⟩, S.mg, S.kp, S.bd⟩
  refine fnG0 F sc__law_random_branch (fun vs H Q E h => ?_) (fun cdv A outer s H vs Q E hr h => ?_)
  · obtain ⟨p, g, n, e, st, wd, kd, ps, ns, ord, ws, ks, pn, es, f, w, k, rfl, _⟩ := h
    rfl
  · obtain ⟨p, g, n, e, st, wd, kd, ps, ns, ord, ws, ks, pn, es, f, w, k, rfl, hp, gs, hps, hwd, wok, hkd, kws, knd, wm, kb, n6, tabs, q⟩ := h
    have nd := sc__law_random_branch.nd
    have hu := hr.u1
    refine ⟨_, (pss_cons (ps_lock (ps_setLc (i := 6) (own := [("_law_node", 7)]) rfl nd rfl rfl (sw_true rfl rfl rfl (by decide +kernel)) (pi_keys (pv 3)) (blkOk_by (own := [("_law_node", 7)]) (N := nN__law_random_branch) (sc := defScope s__law_random_branch) (by decide +kernel)) (fun _ _ _ _ _ => (pg_name (i := 7) nd rfl (by first | exact Or.inl rfl | exact Or.inr rfl))) (fun _ _ _ _ _ => (pts_one (pt_cmp (pc_dnotin hu (pv 7) (pv 4))))) (fun _ _ _ _ _ => (pv 7))))
  (C8.pss_cut (ps_if (PW.pt (pw_or (pt_cmpR (kEq K rfl hr.u64) (pv 6) (pe_lst pa_nil) (nomark _)) (pw_or1 (pt_cmpR (kEq K rfl hr.u64) (pe_c C._law_draw hr (by omega) rfl (pa_cons (pv 0) (pa_cons pe_int pa_nil))) pe_int (nomark _))))) (pss_one (ps_ret (pe_ix (kIx K rfl) (pe_lst (pa_cons pe_non (pa_cons (pe_tup pa_nil) (pa_cons (pe_tup (pa_cons pe_str (pa_cons pe_non (pa_cons pe_non (pa_cons (pe_lst pa_nil) pa_nil))))) (pa_cons (pe_lst pa_nil) (pa_cons pe_int pa_nil)))))) (pe_c C._law_draw hr (by omega) rfl (pa_cons (pv 0) (pa_cons pe_int pa_nil))) (fun _ _ => rfl)))) pss_nil)
  (pss_cons (ps_set (i := 7) nd rfl (by first | exact Or.inl rfl | exact Or.inr rfl) (pe_ix (kIx K rfl) (pv 6) (pe_c C._law_draw hr (by omega) rfl (pa_cons (pv 0) (pa_cons (pe_callB (kLen K rfl) (by rfl) B.len bb_len (pa_cons (pv 6) pa_nil)) pa_nil))) (fun _ _ => rfl)))
  (pss_cons (ps_set (i := 8) nd rfl (by first | exact Or.inl rfl | exact Or.inr rfl) (pe_c C._law_random_bound hr (by omega) rfl (pa_cons (pv 0) (pa_cons (pv 1) (pa_cons (pv 2) (pa_cons (pv 7) (pa_cons (pv 4) (pa_cons (pv 5) pa_nil))))))))
  (pss_cons (ps_set (i := 9) nd rfl (by first | exact Or.inl rfl | exact Or.inr rfl) (pv 8))
  (C8.pss_cut (ps_if (pt_cmpR (kEq K rfl hr.u64) (pe_c C._law_draw hr (by omega) rfl (pa_cons (pv 0) (pa_cons pe_int pa_nil))) pe_int (nomark _)) (pss_one (ps_set (i := 9) nd rfl (by first | exact Or.inl rfl | exact Or.inr rfl) (pe_c C._law_random_bound hr (by omega) rfl (pa_cons (pv 0) (pa_cons (pv 1) (pa_cons (pv 2) (pa_cons (pv 7) (pa_cons (pv 4) (pa_cons (pv 5) pa_nil))))))))) pss_nil)
  (pss_cons (ps_set (i := 10) nd rfl (by first | exact Or.inl rfl | exact Or.inr rfl) (pe_c C._law_bound hr (by omega) rfl (pa_cons (pv 1) (pa_cons (pv 2) (pa_cons (pv 8) (pa_cons (pv 7) (pa_cons (pv 4) (pa_cons (pe_lst pa_nil) (pa_cons (pv 5) (pa_cons pe_int pa_nil))))))))))
  (pss_cons (ps_set (i := 11) nd rfl (by first | exact Or.inl rfl | exact Or.inr rfl) (pe_c C._law_bound hr (by omega) rfl (pa_cons (pv 1) (pa_cons (pv 2) (pa_cons (pv 9) (pa_cons (pv 7) (pa_cons (pv 4) (pa_cons (pe_lst pa_nil) (pa_cons (pv 5) (pa_cons (pe_op uSub pe_int pe_int) pa_nil))))))))))
  (C8.pss_cut (ps_if (PW.pt (pw_or (pt_cmpR (kEq K rfl hr.u64) (pe_c C._law_draw hr (by omega) rfl (pa_cons (pv 0) (pa_cons pe_int pa_nil))) pe_int (nomark _)) (pw_or (pt_cmpR uIs (pv 10) pe_non (nomark _)) (pw_or1 (pt_cmpR uIs (pv 11) pe_non (nomark _)))))) (pss_cons (ps_set (i := 8) nd rfl (by first | exact Or.inl rfl | exact Or.inr rfl) (pe_ifExp (pt_cmpR uGt (pe_c C._law_draw hr (by omega) rfl (pa_cons (pv 0) (pa_cons pe_int pa_nil))) pe_int (nomark _)) pe_non (pv 8)))
  (pss_cons (ps_set (i := 9) nd rfl (by first | exact Or.inl rfl | exact Or.inr rfl) (pe_ifExp (pt_cmpR uGt (pe_c C._law_draw hr (by omega) rfl (pa_cons (pv 0) (pa_cons pe_int pa_nil))) pe_int (nomark _)) pe_non (pv 9)))
  (pss_cons (ps_set (i := 10) nd rfl (by first | exact Or.inl rfl | exact Or.inr rfl) pe_int)
  (pss_one (ps_set (i := 11) nd rfl (by first | exact Or.inl rfl | exact Or.inr rfl) pe_int))))) pss_nil)
  (pss_cons (ps_set (i := 12) nd rfl (by first | exact Or.inl rfl | exact Or.inr rfl) (pe_lst pa_nil))
  (pss_cons (ps_for PassesOwn.never rfl (pi_range2 rfl B.range (pa_cons (pv 10) (pa_cons (pe_op (kAdd K rfl) (pv 11) pe_int) pa_nil))) (pg_name (i := 13) nd rfl (by first | exact Or.inl rfl | exact Or.inr rfl)) (pss_one (ps_if (pt_cmpR (kEq K rfl hr.u64) (pe_op uMod (pe_op uSub (pe_dget hu (pv 2) (pv 7) (fun _ _ => rfl)) (pv 13)) pe_int) (pe_dget hu (pv 3) (pv 7) (fun _ _ => rfl)) (nomark _)) (pss_cons (ps_set (i := 14) nd rfl (by first | exact Or.inl rfl | exact Or.inr rfl) (pe_callTy cDict (by rfl) B.dict bb_dict (pa_cons (pv 4) pa_nil)))
  (pss_cons (ps_dput hu (pv 14) (pv 7) (pv 13) rfl)
  (pss_one (ps_expr (pe_bm PySem.F.plainAttrs_list PySem.F.slot_list_append PySem.F.type_list_append mt_append (pv 12) (pa_cons (pe_lock (pe_c cal hr (by omega) rfl (pa_cons (pv 0) (pa_cons (pv 1) (pa_cons (pv 2) (pa_cons (pv 3) (pa_cons (pv 14) (pa_cons (pv 5) pa_nil)))))))) pa_nil)))))) pss_nil)))
  (C8.pss_cut (ps_if (pt_cmpR (kEq K rfl hr.u64) (pe_c C._law_draw hr (by omega) rfl (pa_cons (pv 0) (pa_cons pe_int pa_nil))) pe_int (nomark _)) (pss_one (ps_set (i := 12) nd rfl (by first | exact Or.inl rfl | exact Or.inr rfl) (pe_ifExp (pt_cmpR (kEq K rfl hr.u64) (pe_c C._law_draw hr (by omega) rfl (pa_cons (pv 0) (pa_cons pe_int pa_nil))) pe_int (nomark _)) (pe_slice (kSl K rfl) (pv 12) (po_some pe_int) po_none) (pe_op (kAdd K rfl) (pv 12) (pe_lst (pa_cons (pe_tup (pa_cons (pv 7) (pa_cons pe_non (pa_cons pe_non (pa_cons (pe_lst pa_nil) pa_nil))))) pa_nil)))))) pss_nil)
  (pss_one (ps_ret (pe_tup (pa_cons (pv 7) (pa_cons (pv 8) (pa_cons (pv 9) (pa_cons (pv 12) pa_nil))))))))))))))))))), ?_⟩
    have l100 := gs.l2
    have nok := gs.ok.names.ok
    have lo := @szB_lo m
    have x0 : GoC TT p H H := GoC.refl hp tabs
    have wl := wok.l3
    wtm_at "rd"
    refine ⟨wd, .dK (kvF ws w), hwd, trivial, fun od => ?_⟩
    wtm_at "rd"
    refine rd_forK upd_same ?_
    intro D fD
    have nDa := new_ne fD
    have fD0 := new_old fD
    refine lcW walk_keys (fun i H' => But wd H H' ∧ H' wd = some (.frz od (.dK (kvF ws w))) ∧ H' D = some (.lst (((ws.take i).filter fun y => decide (y ∉ ks)).map V.str))) ⟨But.upd.trans (But.new fD), at_upd (Ne.symm nDa) upd_same, upd_same⟩ ?_ ?_ ?_
    · rintro i H' hi ⟨_, hf, _⟩
      exact hf
    · rintro i yy H' H2 hi ⟨but, hf, hD⟩ ⟨rfl, k1, vv, e1, rfl⟩
      have hin : i < ws.length := by rw [List.length_map] at hi; exact hi
      obtain ⟨rfl, _⟩ := key_at hin e1
      have len : ((ws.take i).filter fun y => decide (y ∉ ks)).length ≤ 3 := Nat.le_trans (List.length_filter_le _ _) (by rw [List.length_take]; omega)
      rw [take_snoc hin, List.filter_append, List.map_append]
      generalize ws[i] = o at *
      wtm_at "rd"
      refine rd_din1 (lk_rd hwd hkd but hf) (k := .inr o) rfl ?_
      by_cases ok : o ∈ ks
      · rw [kvF_val ok]
        wtm_at "rd"
        try refine rd_bl ?_
        try refine rd_F ?_
        refine ⟨but, hf, ?_⟩
        rw [show ([o].filter fun y => decide (y ∉ ks)) = [] from by rw [List.filter_cons, decide_eq_false (fun z => z ok)]; rfl, List.map_nil, List.append_nil]
        exact hD
      · rw [kvF_none ok]
        wtm_at "rd"
        try refine rd_bl ?_
        try refine rd_T ?_
        wtm_at "rd"
        refine rd_acc hD (by rw [List.length_map]; omega) ?_
        refine ⟨fun b' o' nb hb' => at_upd (ne_of_none hb' fD0) (but b' o' nb hb'), at_upd (Ne.symm nDa) hf, ?_⟩
        rw [upd_same, List.filter_cons, decide_eq_true ok]
        rfl
    rintro H' ⟨but, hf, hD⟩
    rw [List.length_map, List.take_length] at hD
    have len : (ws.filter fun y => decide (y ∉ ks)).length ≤ 3 := Nat.le_trans (List.length_filter_le _ _) (by omega)
    have rin : ∀ y ∈ ws.filter (fun y => decide (y ∉ ks)), y ∈ ws ∧ y ∉ ks := fun y hy => ⟨(List.mem_filter.mp hy).1, of_decide_eq_true (List.mem_filter.mp hy).2⟩
    have s1 := lk_same hwd but
    have hD1 := at_upd (o := .dK (kvF ws w)) nDa hD
    generalize (ws.filter fun y => decide (y ∉ ks)) = rem at *
    wtm_at "rd"
    refine ⟨hf, ?_⟩
    generalize upd H' wd (.dK (kvF ws w)) = H1 at s1 hD1
    have nDp : D ≠ p := hp.offN fD0
    clear but hf hD nDa fD0 fD
    have x1 := x0.same s1
    clear s1 x0
    refine ⟨fun σ' H' => σ' = [some (.ref p), some (.ref g), some (.ref st), some (.ref wd), some (.ref kd), some (.ref ps), some (.ref D), none, none, none, none, none, none, none, none] ∧ GoC TT p H H' ∧ H' D = some (.lst (rem.map V.str)) ∧ rem ≠ [], ?_, ?_⟩
    · have out : ∀ (HX : Hp), GoC TT p H HX → (tRet
              (tOp (rIxU K)
                (tLst
                  (tCons (tC V.non)
                    (tCons (tTup tNil)
                      (tCons
                        (tTup
                          (tCons (tC (V.str (Str.ofString "a")))
                            (tCons (tC V.non) (tCons (tC V.non) (tCons (tLst tNil) tNil)))))
                        (tCons (tLst tNil) (tCons (tC (V.int 3)) tNil))))))
                (tC1 spDraw E0 (tCons (tVar 0) (tCons (tC (V.int 5)) tNil))))) { nx := fun x H' => True, rt := Q } [some (.ref p), some (.ref g), some (.ref st), some (.ref wd), some (.ref kd), some (.ref ps), some (.ref D), none, none, none, none, none, none, none, none] HX := by
        intro HX xX
        wtm_at "rd"
        intro t1 ft1
        have kt1 := Same.new (o := .tup []) ft1
        have ht1 := @upd_same HX t1 (.tup [])
        have xX := xX.same kt1
        generalize upd HX t1 (.tup []) = H2 at ht1 xX
        clear kt1 ft1
        wtm_at "rd"
        intro l1 fl1
        have nl1 : l1 ≠ p := xX.pool.offN fl1
        have kl1 := Same.new (o := .lst []) fl1
        have hl1 := @upd_same H2 l1 (.lst [])
        have ht1 := kl1 _ _ ht1
        have xX := xX.same kl1
        generalize upd H2 l1 (.lst []) = H3 at hl1 ht1 xX
        clear kl1 fl1
        wtm_at "rd"
        intro t2 ft2
        have kt2 := Same.new (o := .tup [.str "a", .non, .non, .ref l1]) ft2
        have ht2 := @upd_same H3 t2 (.tup [.str "a", .non, .non, .ref l1])
        have ht1 := kt2 _ _ ht1
        have hl1 := kt2 _ _ hl1
        have xX := xX.same kt2
        generalize upd H3 t2 (.tup [.str "a", .non, .non, .ref l1]) = H4 at ht2 ht1 hl1 xX
        clear kt2 ft2
        wtm_at "rd"
        intro l2 fl2
        have nl2 : l2 ≠ p := xX.pool.offN fl2
        have kl2 := Same.new (o := .lst []) fl2
        have hl2 := @upd_same H4 l2 (.lst [])
        have ht1 := kl2 _ _ ht1
        have hl1 := kl2 _ _ hl1
        have ht2 := kl2 _ _ ht2
        have xX := xX.same kl2
        generalize upd H4 l2 (.lst []) = H5 at hl2 ht1 hl1 ht2 xX
        clear kl2 fl2
        wtm_at "rd"
        intro LL fLL
        have nLL : LL ≠ p := xX.pool.offN fLL
        have kLL := Same.new (o := .lst [.non, .ref t1, .ref t2, .ref l2, .int 3]) fLL
        have hLL := @upd_same H5 LL (.lst [.non, .ref t1, .ref t2, .ref l2, .int 3])
        have ht1 := kLL _ _ ht1
        have hl1 := kLL _ _ hl1
        have ht2 := kLL _ _ ht2
        have hl2 := kLL _ _ hl2
        have xX := xX.same kLL
        generalize upd H5 LL (.lst [.non, .ref t1, .ref t2, .ref l2, .int 3]) = H6 at hLL ht1 hl1 ht2 hl2 xX
        clear kLL fLL
        wtm_at "rd"
        refine use_draw xX.pool (by decide) (by decide) fun jI H7 j0 j1 g7 => ?_
        obtain ⟨j, rfl⟩ := Int.eq_ofNat_of_zero_le j0
        have ht1 := g7.tup xX.pool ht1
        have hl1 := g7.at hl1 nl1
        have ht2 := g7.tup xX.pool ht2
        have hl2 := g7.at hl2 nl2
        have hLL := g7.at hLL nLL
        have xX := xX.go g7
        have od : ∀ {v : V} {d : PyData}, OddB d → DgN p H7 v d → SmD 60 10 d → Q v H7 := fun {v d} o dg sm => q v (.odd d) H7 xX ⟨dg, o, by simp only [BrT.raw], by simp only [BrT.dp]; omega, sm.mono lo (by omega)⟩
        have nn : DgN p H7 .non .none := .atm (.inl rfl)
        have e1 : SmDs 0 0 [] := SmDs.nil
        rcases (by omega : j = 0 ∨ j = 1 ∨ j = 2 ∨ j = 3 ∨ j = 4) with rfl | rfl | rfl | rfl | rfl
        · refine rd_ixL (SqL.of hLL) (v := .non) rfl ?_
          exact od (d := .none) (.inl (fun _ z => nomatch z)) nn (smn.mono (by omega) (by omega))
        · refine rd_ixL (SqL.of hLL) (v := .ref t1) rfl ?_
          exact od (.inr (.inl ⟨[], rfl, by decide⟩)) (.tup ht1 .nil) ((SmD.tup e1).mono (by omega) (by omega))
        · refine rd_ixL (SqL.of hLL) (v := .ref t2) rfl ?_
          have sm : SmD 60 10 (.tuple [.str "a", .none, .none, .list []]) := (SmD.tup (SmDs.cons smA (SmDs.cons smn (SmDs.cons smn (SmDs.cons (SmD.lst e1) e1))))).mono (by omega) (by omega)
          refine q _ (.node "a" none none []) H7 xX ⟨?_, by simp [BrT.ok, BrT.oks], by simp [BrT.raw, BrT.raws, BdR], by simp [BrT.dp, BrT.dps], ?_⟩
          · simp only [datT, datTs, datBd]
            exact .tup ht2 (.cons (.atm (.inr (.inr (.inr ⟨_, rfl⟩)))) (.cons nn (.cons nn (.cons (.lst nl1 hl1 .nil) .nil))))
          · simp only [datT, datTs, datBd]
            exact sm.mono lo (by omega)
        · refine rd_ixL (SqL.of hLL) (v := .ref l2) rfl ?_
          exact od (d := .list []) (.inl (fun _ z => nomatch z)) (.lst nl2 hl2 .nil) ((SmD.lst e1).mono (by omega) (by omega))
        · refine rd_ixL (SqL.of hLL) (v := .int 3) rfl ?_
          exact od (d := .int 3) (.inl (fun _ z => nomatch z)) (.atm (.inr (.inr (.inl ⟨_, rfl⟩)))) (sm3.mono (by omega) (by omega))
      wtm_at "rd"
      intro k0 fk0
      have kk0 := Same.new (o := .lst []) fk0
      have hk0 := @upd_same H1 k0 (.lst [])
      have hD1 := kk0 _ _ hD1
      have x1 := x1.same kk0
      generalize upd H1 k0 (.lst []) = H2 at hk0 hD1 x1
      clear kk0 fk0
      refine rd_eqNilS (SqL.of hD1) (SqL.of hk0) (fun z hz => gs.sok z (wok.ok z (rin z hz).1).1) ?_
      cases rem with
      | nil =>
        rw [show ([] : List Str).isEmpty = true from rfl]
        refine ⟨true, rfl, ?_⟩
        rw [if_pos rfl]
        exact out _ x1
      | cons z r =>
        rw [show (z :: r).isEmpty = false from rfl]
        wtm_at "rd"
        refine use_draw x1.pool (by decide) (by decide) fun jI H3 j0 j1 g3 => ?_
        have hD3 := g3.at hD1 nDp
        have x3 := x1.go g3
        wtm_at "rd"
        refine rd_split (fun c2 => ?_) (fun c2 => ?_)
        · exact out _ x3
        · exact ⟨rfl, x3, hD3, nofun⟩
    clear x1 hD1
    rintro σ' H2 ⟨rfl, x2, hD, rne⟩
    wtm_at "rd"
    refine rd_lenL (SqL.of hD) ?_
    rw [List.length_map]
    have rpos : 0 < rem.length := List.length_pos_iff.mpr rne
    wtm_at "rd"
    refine use_draw x2.pool (by omega) (by omega) fun jI H3 j0 j1 g3 => ?_
    obtain ⟨j, rfl⟩ := Int.eq_ofNat_of_zero_le j0
    have hj : j < rem.length := by omega
    have hD3 := g3.at hD nDp
    have x3 := x2.go g3
    clear x2 hD g3
    wtm_at "rd"
    refine rd_ixL (SqL.of hD3) (v := .str rem[j]) (atI_nat (by rw [List.getElem?_map, List.getElem?_eq_getElem hj]; rfl)) ?_
    obtain ⟨xw, xk⟩ := rin _ (List.getElem_mem hj)
    generalize rem[j] = x at *
    clear hD3 rin rpos rne len
    have xin := (wok.ok x xw).1
    have nd2 : (ks ++ [x]).Nodup := by
      rw [List.nodup_append]
      exact ⟨knd, List.nodup_cons.mpr ⟨List.not_mem_nil, List.nodup_nil⟩, fun a ha b hb e => xk (by rw [← List.mem_singleton.mp hb, ← e]; exact ha)⟩
    have sub2 : ∀ y ∈ ks ++ [x], y ∈ ws := fun y hy => by
      rcases List.mem_append.mp hy with h | h
      · exact kws y h
      · rw [List.mem_singleton.mp h]
        exact xw
    have l2 : (ks ++ [x]).length ≤ ws.length := nodup_len nd2 sub2
    rw [List.length_append, List.length_singleton] at l2
    obtain ⟨m, rfl⟩ : ∃ m', m = m' + 1 := ⟨m - 1, by omega⟩
    have j3 : ks.length + m ≤ 2 := by omega
    wtm_at "rd"
    refine ⟨p, g, n, e, st, kd, ps, x, ns, ord, ks, pn, es, f, k, rfl, x3.pool, gs.goN hp x3.n, sqT_gon (K := K) hps hp x3.n, x3.n.dk hp hkd, xin, n6, x3.tabs, fun v1 b1 H4 xx4 d1 sb1 => ?_⟩
    have x4 := x3.trans xx4
    clear x3 xx4
    wtm_at "rd"
    refine ⟨fun σ' H' => ∃ (v2 : V) (b2 : Bd), σ' = [some (.ref p), some (.ref g), some (.ref st), some (.ref wd), some (.ref kd), some (.ref ps), some (.ref D), some (.str x), some v1, some v2, none, none, none, none, none] ∧ GoC TT p H H' ∧ DgN p H' v1 (datBd (some b1)) ∧ DgN p H' v2 (datBd (some b2)) ∧ BdS ns (some b2), ?_, ?_⟩
    · wtm_at "rd"
      refine use_draw x4.pool (by decide) (by decide) fun jI H5 j0 j1 g5 => ?_
      have d1 := DgN.gon d1 x4.pool (GoN.of_go x4.tabs x4.pool g5)
      have x5 := x4.go g5
      wtm_at "rd"
      refine rd_split (fun c2 => ?_) (fun c2 => ⟨v1, b1, rfl, x5, d1, d1, sb1⟩)
      wtm_at "rd"
      refine ⟨p, g, n, e, st, kd, ps, x, ns, ord, ks, pn, es, f, k, rfl, x5.pool, gs.goN hp x5.n, sqT_gon (K := K) hps hp x5.n, x5.n.dk hp hkd, xin, n6, x5.tabs, fun v2 b2 H6 xx6 d2 sb2 => ?_⟩
      wtm_at "rd"
      exact ⟨v2, b2, rfl, x5.trans xx6, DgN.gon d1 x5.pool xx6.n, d2, sb2⟩
    clear x4 d1
    rintro σ' H5 ⟨v2, b2, rfl, x5, d1, d2, sb2⟩
    have sI : Same H5 H5 := fun b o h => h
    wtm_at "rd"
    intro f1 ff1
    have kf1 := Same.new (o := .lst []) ff1
    have hf1 := @upd_same H5 f1 (.lst [])
    have x6 := x5.same kf1
    generalize upd H5 f1 (.lst []) = H6 at *
    wtm_at "rd"
    refine ⟨p, g, n, e, st, kd, f1, ps, v1, some b1, x, 1, ns, ord, pn, ks, [], es, f, k, rfl, .inl rfl, gs.goN hp x6.n, d1.same kf1, sb1.r, x6.n.dk hp hkd, hf1, Nat.zero_le _, SqT.of (sqT_gon (K := K) hps hp x6.n), fun H7 s7 => ?_⟩
    have x7 := x6.same s7
    have sA := kf1.trans s7
    clear hf1 s7 x6 kf1
    wtm_at "rd"
    intro f2 ff2
    have kf2 := Same.new (o := .lst []) ff2
    have hf2 := @upd_same H7 f2 (.lst [])
    have x8 := x7.same kf2
    have sB := sA.trans kf2
    generalize upd H7 f2 (.lst []) = H8 at *
    wtm_at "rd"
    refine ⟨p, g, n, e, st, kd, f2, ps, v2, some b2, x, -1, ns, ord, pn, ks, [], es, f, k, rfl, .inr rfl, gs.goN hp x8.n, d2.same sB, sb2.r, x8.n.dk hp hkd, hf2, Nat.zero_le _, SqT.of (sqT_gon (K := K) hps hp x8.n), fun H9 s9 => ?_⟩
    have x9 := x8.same s9
    have sC := sB.trans s9
    have d1 := d1.same sC
    have d2 := d2.same sC
    clear hf2 s9 x8 x7 x5 kf2 sA sB sC sI ff1 ff2
    have kb1 := fun {i : Int} => bnd_bd5 (ns := ns) (es := es.map (·.2)) (f := f) (pn := pn) (fc := fcQ ns (es.map (·.2)) f pn) (ks := ks) (k := k) (fr := []) (x := x) (dir := 1) (i := i) (b := b1) kb (.inl rfl) sb1.1.le
    have kb2 := fun {i : Int} => bnd_bd5 (ns := ns) (es := es.map (·.2)) (f := f) (pn := pn) (fc := fcQ ns (es.map (·.2)) f pn) (ks := ks) (k := k) (fr := []) (x := x) (dir := -1) (i := i) (b := b2) kb (.inr rfl) sb2.1.le
    generalize bndN ns (es.map (·.2)) f pn (fcQ ns (es.map (·.2)) f pn) ks k [] x 1 (some b1) = r1 at *
    generalize bndN ns (es.map (·.2)) f pn (fcQ ns (es.map (·.2)) f pn) ks k [] x (-1) (some b2) = r2 at *
    wtm_at "rd"
    refine ⟨fun σ' H' => ∃ (w1 w2 : V) (c1 c2 : Option Bd) (i1 i2 : Int), σ' = [some (.ref p), some (.ref g), some (.ref st), some (.ref wd), some (.ref kd), some (.ref ps), some (.ref D), some (.str x), some w1, some w2, some (.int i1), some (.int i2), none, none, none] ∧ GoC TT p H H' ∧ DgN p H' w1 (datBd c1) ∧ DgN p H' w2 (datBd c2) ∧ BdS ns c1 ∧ BdS ns c2 ∧ -(5 * ((ks.length : Int) + 1)) ≤ i1 ∧ i1 ≤ 5 * ((ks.length : Int) + 1) ∧ -(5 * ((ks.length : Int) + 1)) ≤ i2 ∧ i2 ≤ 5 * ((ks.length : Int) + 1), ?_, ?_⟩
    · have nn : ∀ {HX : Hp}, DgN p HX .non (datBd none) := .atm (.inl rfl)
      wtm_at "rd"
      refine use_draw x9.pool (by decide) (by decide) fun jI HA j0 j1 gA => ?_
      have d1 := DgN.gon d1 x9.pool (GoN.of_go x9.tabs x9.pool gA)
      have d2 := DgN.gon d2 x9.pool (GoN.of_go x9.tabs x9.pool gA)
      have xA := x9.go gA
      wtm_at "rd"
      refine rd_split (fun c2 => ?tA) (fun c2 => ?tB)
      case' tB =>
        wtm_at "rd"
        rcases r1 with _ | i1
        case' none => rw [show oI none = V.non from rfl, decide_eq_true rfl]
        case' some =>
          rw [show oI (some i1) = V.int i1 from rfl, decide_eq_false (fun z => nomatch z)]
          wtm_at "rd"
          rcases r2 with _ | i2
          case' none => rw [show oI none = V.non from rfl, decide_eq_true rfl]
          case' some =>
            rw [show oI (some i2) = V.int i2 from rfl, decide_eq_false (fun z => nomatch z)]
            have b1' := kb1 rfl
            have b2' := kb2 rfl
            wtm_at "rd"
            exact ⟨v1, v2, some b1, some b2, i1, i2, rfl, xA, d1, d2, sb1, sb2, b1'.1, b1'.2, b2'.1, b2'.2⟩
      all_goals
        wtm_at "rd"
        refine use_draw xA.pool (by decide) (by decide) fun jI2 HB j20 j21 gB => ?_
        have d1 := DgN.gon d1 xA.pool (GoN.of_go xA.tabs xA.pool gB)
        have d2 := DgN.gon d2 xA.pool (GoN.of_go xA.tabs xA.pool gB)
        have xB := xA.go gB
        wtm_at "rd"
        refine rd_split (fun c3 => ?_) (fun c3 => ?_)
        · wtm_at "rd"
          refine use_draw xB.pool (by decide) (by decide) fun jI3 HC j30 j31 gC => ?_
          have d1 := DgN.gon d1 xB.pool (GoN.of_go xB.tabs xB.pool gC)
          have d2 := DgN.gon d2 xB.pool (GoN.of_go xB.tabs xB.pool gC)
          have xC := xB.go gC
          wtm_at "rd"
          refine rd_split (fun c4 => ?_) (fun c4 => ?_)
          · wtm_at "rd"
            exact ⟨.non, .non, none, none, 0, 2, rfl, xC, nn, nn, trivial, trivial, by omega, by omega, by omega, by omega⟩
          · wtm_at "rd"
            exact ⟨.non, v2, none, some b2, 0, 2, rfl, xC, nn, d2, trivial, sb2, by omega, by omega, by omega, by omega⟩
        · wtm_at "rd"
          refine use_draw xB.pool (by decide) (by decide) fun jI3 HC j30 j31 gC => ?_
          have d1 := DgN.gon d1 xB.pool (GoN.of_go xB.tabs xB.pool gC)
          have d2 := DgN.gon d2 xB.pool (GoN.of_go xB.tabs xB.pool gC)
          have xC := xB.go gC
          wtm_at "rd"
          refine rd_split (fun c4 => ?_) (fun c4 => ?_)
          · wtm_at "rd"
            exact ⟨v1, .non, some b1, none, 0, 2, rfl, xC, d1, nn, sb1, trivial, by omega, by omega, by omega, by omega⟩
          · wtm_at "rd"
            exact ⟨v1, v2, some b1, some b2, 0, 2, rfl, xC, d1, d2, sb1, sb2, by omega, by omega, by omega, by omega⟩
    clear x9 d1 d2 kb1 kb2
    rintro σ' H9 ⟨w1, w2, c1, c2, i1, i2, rfl, x9, d1, d2, sc1, sc2, a1, a2, a3, a4⟩
    have hp9 := x9.pool
    have gs9 := gs.goN hp x9.n
    have hps9 := sqT_gon (K := K) hps hp x9.n
    have hwd9 := x9.n.dk hp hwd
    have hkd9 := x9.n.dk hp hkd
    have tabs9 := x9.tabs
    have q : ∀ (v : V) (T : BrT) (H' : Hp), GoC TT p H9 H' → GenB ns p (m + 1) H' v T → Q v H' := fun v T H' y g => q v T H' (x9.trans y) g
    clear x9 gs hps hwd hkd tabs hp
    wtm_at "rd"
    intro TL fTL
    have nTL : TL ≠ p := hp9.offN fTL
    have kTL := Same.new (o := .lst []) fTL
    have hTL := @upd_same H9 TL (.lst [])
    have y0 : GoC TT p H9 (upd H9 TL (.lst [])) := GoC.of_same tabs9 hp9 kTL
    generalize upd H9 TL (.lst []) = H10 at *
    clear kTL
    wtm_at "rd"
    refine ⟨_, _, rfl, ⟨by omega, by omega, by omega, by omega⟩, ?_⟩
    have cnt : (i2 + 1 - i1).toNat ≤ 10 * (3 - m) + 1 := by omega
    refine turnsR (fun i σ H' => ∃ (u13 u14 : Option V) (vs : List V) (Ts : List BrT), σ = [some (.ref p), some (.ref g), some (.ref st), some (.ref wd), some (.ref kd), some (.ref ps), some (.ref D), some (.str x), some w1, some w2, some (.int i1), some (.int i2), some (.ref TL), u13, u14] ∧ GoC TT p H9 H' ∧ H' TL = some (.lst vs) ∧ vs.length = Ts.length ∧ Ts.length ≤ i ∧ DgNAll p (hidJ H' TL) vs (Ts.map datT) ∧ ∀ T ∈ Ts, T.ok ∧ BrT.raw ns T ∧ T.dp ≤ m + 1 ∧ SmD (szB m) (2 * m + 12) (datT T)) ⟨_, _, [], [], rfl, y0, hTL, rfl, Nat.le_refl 0, .nil, fun T h => nomatch h⟩ ?_ ?_
    · rintro i σ H1 hi ⟨u13, u14, vs, Ts, rfl, y, hTL, lv, lt, dgs, oks⟩
      have gs1 := gs9.goN hp9 y.n
      wtm_at "rd"
      refine rd_dat (.inl gs1.st) (kvF_val (gs1.inO _ xin)) rfl ?_
      wtm_at "rd"
      refine rd_dat (.inl (y.n.dk hp9 hwd9)) (kvF_val xw) rfl ?_
      wtm_at "rd"
      refine rd_split (fun c5 => ?_) (fun c5 => ⟨_, _, vs, Ts, rfl, y, hTL, lv, by omega, dgs, oks⟩)
      wtm_at "rd"
      refine ⟨_, .inl (y.n.dk hp9 hkd9), fun ik fik => ?_⟩
      have ki := Same.new (o := .dK (kvF ks k)) fik
      have hik := @upd_same H1 ik (.dK (kvF ks k))
      generalize upd H1 ik (.dK (kvF ks k)) = H2 at *
      wtm_at "rd"
      refine rd_dset hik (k := .inr x) rfl (by rw [List.length_map]; omega) ?_
      rw [kvF_new xk]
      have sJ := same_put (o := .dK (kvF (ks ++ [x]) (updf k x (i1 + (i : Int))))) ki fik
      have hik := @upd_same H2 ik (.dK (kvF (ks ++ [x]) (updf k x (i1 + (i : Int)))))
      have nik : ik ≠ TL := Ne.symm (ne_of_none hTL fik)
      generalize upd H2 ik (.dK (kvF (ks ++ [x]) (updf k x (i1 + (i : Int))))) = H3 at *
      have y3 := y.same sJ
      have hTL := sJ _ _ hTL
      have dgs : DgNAll p (hidJ H3 TL) vs (Ts.map datT) := DgNAll.unhid dgs (hid_k fun b o _ h => sJ b o h)
      clear ki fik sJ y gs1
      wtm_at "rd"
      refine rd_tyL hTL ?_
      wtm_at "rd"
      refine ⟨TL, .lst vs, hTL, trivial, fun od => ?_⟩
      have yL : GoC TT p H9 (upd H3 TL (.frz od (.lst vs))) := y3.write hp9 fTL nTL hTL nofun (fun c x z => by unfold CodeO at z; cases z)
      have hikL : upd H3 TL (.frz od (.lst vs)) ik = some (.dK (kvF (ks ++ [x]) (updf k x (i1 + (i : Int))))) := at_upd nik hik
      wtm_at "rd"
      refine ⟨m, Nat.lt_succ_self m, p, g, n, e, st, wd, ik, ps, ns, ord, ws, ks ++ [x], pn, es, f, w, updf k x (i1 + (i : Int)), rfl, yL.pool, gs9.goN hp9 yL.n, sqT_gon (K := K) hps9 hp9 yL.n, yL.n.dk hp9 hwd9, wok, hikL, sub2, nd2, by rw [List.length_append, List.length_singleton]; omega, fun y hy => ?_, n6, yL.tabs, fun v T H8 y8 gen => ?_⟩
      · rw [List.length_append, List.length_singleton]
        show -(5 * (((ks.length + 1 : Nat)) : Int)) ≤ updf k x (i1 + (i : Int)) y ∧ updf k x (i1 + (i : Int)) y ≤ 5 * (((ks.length + 1 : Nat)) : Int)
        unfold updf
        split
        · omega
        · rename_i ny
          have := kb y ((List.mem_append.mp hy).resolve_right fun h => ny (List.mem_singleton.mp h))
          omega
      have f8 : H8 TL = some (.frz od (.lst vs)) := y8.n.but TL _ nTL upd_same nofun
      refine ⟨f8, ?_⟩
      have dgs8 : DgNAll p (hidJ H8 TL) vs (Ts.map datT) := DgNAll.hid_gon dgs yL.pool y8.n
      have dg8 := DgN.hid_of gen.dg f8
      have yF : ∀ o : HO, GoC TT p H9 (upd H8 TL o) := fun o => (yL.trans y8).write hp9 fTL nTL f8 nofun (fun c x z => by unfold CodeO at z; cases z)
      wtm_at "rd"
      refine rd_append upd_same (by omega) ?_
      rw [upd_upd]
      have eh : hidJ (upd H8 TL (.lst (vs ++ [v]))) TL = hidJ H8 TL := upd_upd
      wtm_at "rd"
      refine ⟨_, _, vs ++ [v], Ts ++ [T], rfl, yF _, upd_same, by rw [List.length_append, List.length_append, lv]; rfl, by rw [List.length_append, List.length_singleton]; omega, ?_, fun T' hT' => ?_⟩
      · rw [eh, List.map_append]
        exact dgs8.append (.cons dg8 .nil)
      · rcases List.mem_append.mp hT' with h | h
        · exact oks T' h
        · rw [List.mem_singleton.mp h]
          exact ⟨gen.ok, gen.raw, gen.dp, gen.sm⟩
    rintro σ H1 ⟨u13, u14, vs, Ts, rfl, y, hTL, lv, lt, dgs, oks⟩
    have dgs : DgNAll p H1 vs (Ts.map datT) := DgNAll.unhid dgs fun b o _ h => h
    clear y0
    have bnd : SmDs ((szB m + 1) * (10 * (3 - m) + 1)) (2 * m + 12) (Ts.map datT) := by
      have := (SmDs.of (n := szB m) (m := 2 * m + 12) (ds := Ts.map datT) fun d hd => by
        obtain ⟨T, hT, rfl⟩ := List.mem_map.mp hd
        exact (oks T hT).2.2.2)
      rw [List.length_map] at this
      exact this.le (Nat.mul_le_mul_left _ (by omega)) (Nat.le_refl _)
    have lt : Ts.length ≤ 50 := by omega
    wtm_at "rd"
    refine ⟨fun σ' H7 => ∃ (T2 : Addr) (vs2 : List V) (Ts2 : List BrT), σ' = [some (.ref p), some (.ref g), some (.ref st), some (.ref wd), some (.ref kd), some (.ref ps), some (.ref D), some (.str x), some w1, some w2, some (.int i1), some (.int i2), some (.ref T2), u13, u14] ∧ GoC TT p H9 H7 ∧ H7 T2 = some (.lst vs2) ∧ T2 ≠ p ∧ DgN p H7 w1 (datBd c1) ∧ DgN p H7 w2 (datBd c2) ∧ DgNAll p H7 vs2 (Ts2.map datT) ∧ (∀ T ∈ Ts2, T.ok ∧ BrT.raw ns T ∧ T.dp ≤ m + 1) ∧ SmDs ((szB m + 1) * (10 * (3 - m) + 1) + 61) (2 * m + 12) (Ts2.map datT), ?_, ?_⟩
    · have d1 := DgN.gon d1 hp9 y.n
      have d2 := DgN.gon d2 hp9 y.n
      wtm_at "rd"
      refine use_draw y.pool (by decide) (by decide) fun jI H2 j0 j1 g2 => ?_
      have d1 := DgN.gon d1 y.pool (GoN.of_go y.tabs y.pool g2)
      have d2 := DgN.gon d2 y.pool (GoN.of_go y.tabs y.pool g2)
      have dgs := DgNAll.gon dgs y.pool (GoN.of_go y.tabs y.pool g2)
      have hTL := g2.at hTL nTL
      have y2 := y.go g2
      have oks' : ∀ T ∈ Ts, T.ok ∧ BrT.raw ns T ∧ T.dp ≤ m + 1 := fun T h => ⟨(oks T h).1, (oks T h).2.1, (oks T h).2.2.1⟩
      wtm_at "rd"
      refine rd_split (fun c6 => ?_) (fun c6 => ⟨TL, vs, Ts, rfl, y2, hTL, nTL, d1, d2, dgs, oks', bnd.le (by omega) (Nat.le_refl _)⟩)
      wtm_at "rd"
      refine use_draw y2.pool (by decide) (by decide) fun jI3 H3 j30 j31 g3 => ?_
      have d1 := DgN.gon d1 y2.pool (GoN.of_go y2.tabs y2.pool g3)
      have d2 := DgN.gon d2 y2.pool (GoN.of_go y2.tabs y2.pool g3)
      have dgs := DgNAll.gon dgs y2.pool (GoN.of_go y2.tabs y2.pool g3)
      have hTL := g3.at hTL nTL
      have y3 := y2.go g3
      clear y2 y g2 g3
      wtm_at "rd"
      refine rd_split (fun c7 => ?_) (fun c7 => ?_)
      · wtm_at "rd"
        refine rd_slL (SqL.of hTL) ?_
        rw [cutV_tlJ]
        intro b1 fb1
        have nb1 : b1 ≠ p := y3.pool.offN fb1
        have kb1 := Same.new (o := .lst (vs.drop 1)) fb1
        have hb1 := @upd_same H3 b1 (.lst (vs.drop 1))
        have y3 := y3.same kb1
        have d1 := d1.same kb1
        have d2 := d2.same kb1
        have dgs := dgs.same kb1
        generalize upd H3 b1 (.lst (vs.drop 1)) = H4 at hb1 y3 d1 d2 dgs
        clear kb1 fb1
        wtm_at "rd"
        refine ⟨b1, vs.drop 1, Ts.drop 1, rfl, y3, hb1, nb1, d1, d2, by rw [List.map_drop]; exact DgNAll.tail1 dgs, fun T h => oks' T (List.mem_of_mem_drop h), ?_⟩
        have := (SmDs.of (n := szB m) (m := 2 * m + 12) (ds := (Ts.drop 1).map datT) fun d hd => by
          obtain ⟨T, hT, rfl⟩ := List.mem_map.mp hd
          exact (oks T (List.mem_of_mem_drop hT)).2.2.2)
        rw [List.length_map, List.length_drop] at this
        exact this.le (Nat.le_trans (Nat.mul_le_mul_left _ (by omega : Ts.length - 1 ≤ 10 * (3 - m) + 1)) (Nat.le_add_right _ _)) (Nat.le_refl _)
      · wtm_at "rd"
        intro e0 fe0
        have ne0 : e0 ≠ p := y3.pool.offN fe0
        have ke0 := Same.new (o := .lst []) fe0
        have he0 := @upd_same H3 e0 (.lst [])
        have hTL := ke0 _ _ hTL
        have y3 := y3.same ke0
        have d1 := d1.same ke0
        have d2 := d2.same ke0
        have dgs := dgs.same ke0
        generalize upd H3 e0 (.lst []) = H4 at he0 hTL y3 d1 d2 dgs
        clear ke0 fe0
        wtm_at "rd"
        intro e1 fe1
        have ke1 := Same.new (o := .tup [.str x, .non, .non, .ref e0]) fe1
        have he1 := @upd_same H4 e1 (.tup [.str x, .non, .non, .ref e0])
        have hTL := ke1 _ _ hTL
        have he0 := ke1 _ _ he0
        have y3 := y3.same ke1
        have d1 := d1.same ke1
        have d2 := d2.same ke1
        have dgs := dgs.same ke1
        generalize upd H4 e1 (.tup [.str x, .non, .non, .ref e0]) = H5 at he1 hTL he0 y3 d1 d2 dgs
        clear ke1 fe1
        wtm_at "rd"
        intro e2 fe2
        have ke2 := Same.new (o := .lst [.ref e1]) fe2
        have he2 := @upd_same H5 e2 (.lst [.ref e1])
        have hTL := ke2 _ _ hTL
        have he0 := ke2 _ _ he0
        have he1 := ke2 _ _ he1
        have y3 := y3.same ke2
        have d1 := d1.same ke2
        have d2 := d2.same ke2
        have dgs := dgs.same ke2
        generalize upd H5 e2 (.lst [.ref e1]) = H6 at he2 hTL he0 he1 y3 d1 d2 dgs
        clear ke2 fe2
        wtm_at "rd"
        refine rd_catL hTL he2 (by show vs.length + 1 ≤ 100000; omega) ?_
        intro b2 fb2
        have nb2 : b2 ≠ p := y3.pool.offN fb2
        have kb2 := Same.new (o := .lst (vs ++ [.ref e1])) fb2
        have hb2 := @upd_same H6 b2 (.lst (vs ++ [.ref e1]))
        have he0 := kb2 _ _ he0
        have he1 := kb2 _ _ he1
        have y3 := y3.same kb2
        have d1 := d1.same kb2
        have d2 := d2.same kb2
        have dgs := dgs.same kb2
        generalize upd H6 b2 (.lst (vs ++ [.ref e1])) = H7 at hb2 he0 he1 y3 d1 d2 dgs
        clear kb2 fb2
        have nn : DgN p H7 .non .none := .atm (.inl rfl)
        have sm : SmD 60 (2 * m + 12) (.tuple [.str x, .none, .none, .list []]) := (SmD.tup (SmDs.cons (SmD.name (nok x xin)) (SmDs.cons smn (SmDs.cons smn (SmDs.cons (SmD.lst SmDs.nil) SmDs.nil))))).mono (by omega) (by omega)
        have et : datT (.node x none none []) = .tuple [.str x, .none, .none, .list []] := by simp only [datT, datTs, datBd]
        wtm_at "rd"
        refine ⟨b2, vs ++ [.ref e1], Ts ++ [.node x none none []], rfl, y3, hb2, nb2, d1, d2, ?_, fun T h => ?_, ?_⟩
        · rw [List.map_append]
          refine dgs.append (.cons ?_ .nil)
          rw [et]
          exact .tup he1 (.cons (.atm (.inr (.inr (.inr ⟨_, rfl⟩)))) (.cons nn (.cons nn (.cons (.lst ne0 he0 .nil) .nil))))
        · rcases List.mem_append.mp h with h | h
          · exact oks' T h
          · rw [List.mem_singleton.mp h]
            exact ⟨by simp [BrT.ok, BrT.oks], by simp [BrT.raw, BrT.raws, BdR], by simp [BrT.dp, BrT.dps]⟩
        · rw [List.map_append, List.map_cons, List.map_nil, et]
          exact (SmDs.snocM bnd sm).le (by omega) (Nat.le_refl _)
    clear y d1 d2 dgs oks bnd hTL
    rintro σ' H7 ⟨T2, vs2, Ts2, rfl, y7, hT2, nT2, d1, d2, dgs, oks, bnd⟩
    wtm_at "rd"
    intro r fr
    have kr := Same.new (o := .tup [.str x, w1, w2, .ref T2]) fr
    have hr' := @upd_same H7 r (.tup [.str x, w1, w2, .ref T2])
    generalize upd H7 r (.tup [.str x, w1, w2, .ref T2]) = H8 at *
    have y8 := y7.same kr
    have et : datT (.node x c1 c2 Ts2) = .tuple [.str x, datBd c1, datBd c2, .list (Ts2.map datT)] := by simp only [datT, datTs_eq]
    refine q _ (.node x c1 c2 Ts2) H8 y8 ⟨?_, ?_, ?_, ?_, ?_⟩
    · rw [et]
      exact .tup hr' (.cons (.atm (.inr (.inr (.inr ⟨_, rfl⟩)))) (.cons (d1.same kr) (.cons (d2.same kr) (.cons (.lst nT2 (kr _ _ hT2) (dgs.same kr)) .nil))))
    · simp only [BrT.ok]
      exact oks_of fun T h => (oks T h).1
    · simp only [BrT.raw]
      exact ⟨sc1.r, sc2.r, raws_of fun T h => (oks T h).2.1⟩
    · simp only [BrT.dp]
      have := dps_le (bs := Ts2) fun T h => (oks T h).2.2
      omega
    · rw [et]
      have sl : SmD ((szB m + 1) * (10 * (3 - m) + 1) + 61) (2 * m + 13) (.list (Ts2.map datT)) := SmD.lst bnd
      have s0 : SmD 8 (2 * m + 13) (.str x) := (SmD.name (nok x xin)).mono (Nat.le_refl _) (by omega)
      have s1 : SmD 700 (2 * m + 13) (datBd c1) := (bdS_sm nok sc1).mono (Nat.le_refl _) (by omega)
      have s2 : SmD 700 (2 * m + 13) (datBd c2) := (bdS_sm nok sc2).mono (Nat.le_refl _) (by omega)
      refine (SmD.tup (SmDs.consM s0 (SmDs.consM s1 (SmDs.consM s2 (SmDs.consM sl (SmDs.nil.le (Nat.le_refl 0) (Nat.zero_le _))))))).mono ?_ (by omega)
      have e5 : (szB m + 1) * (10 * (3 - m) + 2) = (szB m + 1) * (10 * (3 - m) + 1) + (szB m + 1) := rfl
      rw [szB, e5]
      have := @szB_lo m
      omega
def spRBrU (TT : List (Addr × Str)) : Sp := fun vs H Q E => ∃ m, m ≤ 3 ∧ spRBr TT m vs H Q E
theorem ok_rbrU {f : Addr} {fd : FuncData} {TT : List (Addr × Str)} (F : Fun K "_law_random_branch" "_law_random_branch" s__law_random_branch f fd) (B : Bt mg) (C : ZJa P w K mg base TT) (S : SelfR K mg "_law_random_branch" f fd ["_law_source", "_law_graph", "_law_state", "_law_wanted", "_law_known", "_law_pins"]) : FnG P w K mg base CX0 12 f fd ["_law_source", "_law_graph", "_law_state", "_law_wanted", "_law_known", "_law_pins"] (spRBrU TT) := by
  exact ⟨fun vs H Q E h => by
    obtain ⟨m, hm, h⟩ := h
    exact (ok_rbr (P := P) (w := w) (base := base) F B C S m).len vs H Q E h, fun A outer s H args us vs Q E hr he hb hv h => by
    obtain ⟨m, hm, h⟩ := h
    exact (ok_rbr (P := P) (w := w) (base := base) F B C S m).go A outer s H args us vs Q E (hr.mono (by omega)) he hb hv h⟩
end
end Law


/-! k54: check_wanted, is_refutation -/
namespace Law
open PySem PySem.Spec PyProof.Rows L2 U LamX


def spCkW : Sp := fun vs H Q _ => ∃ (g n e wd : Addr) (ns ws : List Str) (es : List (Addr × Str × Str)) (w : Str → Int), vs = [.ref g, .ref wd] ∧ GrS H g n e ns es ∧ H wd = some (.dK (kvF ws w)) ∧ 1 ≤ ws.length ∧ ws.length ≤ 3 ∧ (∀ x ∈ ws, x ∈ ns ∧ 0 ≤ w x ∧ w x ≤ 2) ∧ ∀ H' : Hp, Same H H' → Q .non H'
/-- no tuple -/
def spIsBrO (K : PySem.W.Frag) : Sp := fun vs H Q _ => ∃ (v g st wd kd fr ps : V) (t : Ty), vs = [g, st, wd, v, kd, fr, ps] ∧ TyIs K H v t ∧ isT t .tup = false ∧ Q (.bl false) H
def spIsRf (K : PySem.W.Frag) (m : Nat) : Sp := fun vs H Q _ => ∃ (g n e st wd ps : Addr) (v : V) (ns ord ws pn : List Str) (es : List (Addr × Str × Str)) (f w : Str → Int), vs = [.ref g, .ref st, .ref wd, v, .ref ps] ∧ GSt H g n e st ns ord es f ∧ SqT K H ps (pn.map V.str) ∧ H wd = some (.dK (kvF ws w)) ∧ 1 ≤ ws.length ∧ ws.length ≤ 3 ∧ (∀ x ∈ ws, x ∈ ns ∧ 0 ≤ w x ∧ w x ≤ 2) ∧
  ((∃ T : BrT, Dp K H v (datT T) ∧ T.ok ∧ T.dp ≤ m ∧ m ≤ 10 ∧ ∀ (b : Bool) (H' : Hp), Same H H' → (b = true ↔ brP ns (es.map (·.2)) f pn (fcQ ns (es.map (·.2)) f pn) ws w [] (fun _ => 0) [] T) → Q (.bl b) H') ∨
   ∃ t, TyIs K H v t ∧ isT t .tup = false ∧ ∀ H' : Hp, Same H H' → Q (.bl false) H')
section
variable {P : Program} {w : World} {K : PySem.W.Frag} {mg : Str → Option Value} {base : Heap}
structure ZHa (P : Program) (w : World) (K : PySem.W.Frag) (mg : Str → Option Value) (base : Heap) : Prop where
  has_node : Cal P w K mg base CX0 1 "has_node" (spHasV K)
  is_value : Cal P w K mg base CX0 2 "is_value" spIsVal
  MAX_WANTED : ∃ u, mg "MAX_WANTED" = some u ∧ RelV (.int 3) u
theorem ok_ckW {f : Addr} {fd : FuncData} (F : Fun K "check_wanted" "check_wanted" s_check_wanted f fd) (B : Bt mg) (C : ZHa P w K mg base) : FnG P w K mg base CX0 3 f fd ["graph", "candidate"] spCkW := by
  refine fnG0 F sc_check_wanted (fun vs H Q E h => ?_) (fun cdv A outer s H vs Q E hr h => ?_)
  · obtain ⟨g, n, e, wd, ns, ws, es, w, rfl, _⟩ := h
    rfl
  · obtain ⟨g, n, e, wd, ns, ws, es, w, rfl, gs, hwd, w1, w3, wok, q⟩ := h
    have nd := sc_check_wanted.nd
    have hu := hr.u1
    refine ⟨_, (pss_cons (ps_if (PW.pt (pw_or (pt_not (pt_val (pe_callB (kIsi K rfl) (by rfl) B.isinstance bb_isinstance (pa_cons (pv 1) (pa_cons (pe_ty rfl B.dict bb_dict) pa_nil))))) (pw_or1 (pt_not (pt_chain uLe uLe pe_int (pe_callB (kLen K rfl) (by rfl) B.len bb_len (pa_cons (pv 1) pa_nil)) (pe_gl rfl C.MAX_WANTED)))))) (pss_one (ps_dead)) pss_nil)
  (pss_one (ps_if (pt_not (pt_val (pe_callB (kAll K rfl rfl) (by rfl) B.all bb_all (pa_cons (pe_lock (pe_lc (own := [("node", 2), ("value", 3)]) rfl nd (pi_items (pv 1)) (blkOk_by (own := [("node", 2), ("value", 3)]) (N := nN_check_wanted) (sc := defScope s_check_wanted) (by decide +kernel)) (fun _ _ _ _ _ => (kg_tup (n := 2) K rfl rfl (pgs_cons (pg_name (i := 2) nd rfl (by first | exact Or.inl rfl | exact Or.inr rfl)) (pgs_cons (pg_name (i := 3) nd rfl (by first | exact Or.inl rfl | exact Or.inr rfl)) pgs_nil)))) (fun _ _ _ _ _ => pts_nil) (fun _ _ _ _ _ => (pe_and (pe_c C.has_node hr (by decide) rfl (pa_cons (pv 0) (pa_cons (pv 2) pa_nil))) (pe_one (pe_c C.is_value hr (by decide) rfl (pa_cons (pv 3) pa_nil))))))) pa_nil)))) (pss_one (ps_dead)) pss_nil))), ?_⟩
    have l100 := gs.l2
    wtm_at "rd"
    refine rd_isi (ty_dK hwd) rfl ?_
    rw [show isT Ty.dct Ty.dct = true from rfl]
    wtm_at "rd"
    refine rd_lenD hwd ?_
    rw [List.length_map]
    wtm_at "rd"
    rw [decide_eq_true (show (1 : Int) ≤ (ws.length : Int) from by omega)]
    wtm_at "rd"
    rw [decide_eq_true (show (ws.length : Int) ≤ 3 from by omega)]
    wtm_at "rd"
    refine rd_lockE hwd fun od => ?_
    wtm_at "rd"
    refine rd_forI upd_same ?_
    intro D fD
    have nDa := new_ne fD
    have fD0 := new_old fD
    refine lcW walk_items (fun i H' => But wd H H' ∧ H' wd = some (.frz od (.dK (kvF ws w))) ∧ H' D = some (.lst ((List.replicate i true).map V.bl))) ⟨But.upd.trans (But.new fD), at_upd (Ne.symm nDa) upd_same, upd_same⟩ ?_ ?_ ?_
    · rintro i H' hi ⟨_, hf, _⟩
      exact hf
    · rintro i x H' H2 hi ⟨but, hf, hD⟩ ⟨T, x1, y1, rfl, fT, rfl, e1, e2⟩
      obtain ⟨hin, rfl, rfl⟩ := kvF_at e1 e2
      have hm := List.getElem_mem hin
      have but2 : But wd H (upd H' T (.tup [.str ws[i], .int (w ws[i])])) := but.trans (But.new fT)
      have hf2 := at_upd (o := .tup [.str ws[i], .int (w ws[i])]) (ne_of_none hf fT) hf
      have hD2 := at_upd (o := .tup [.str ws[i], .int (w ws[i])]) (ne_of_none hD fT) hD
      have hT2 := @upd_same H' T (.tup [.str ws[i], .int (w ws[i])])
      generalize upd H' T (.tup [.str ws[i], .int (w ws[i])]) = H2 at *
      obtain ⟨xn, x0, x2⟩ := wok _ hm
      generalize ws[i] = o at *
      refine rd_unp (SqT.of hT2) rfl ?_
      wtm_at "rd"
      refine ⟨g, n, e, .str o, .str, ns, es, rfl, (grs_but gs hwd but2).gr, .inr ⟨o, rfl, ?_⟩⟩
      rw [decide_eq_true xn]
      wtm_at "rd"
      refine ⟨w o, rfl, ?_⟩
      rw [decide_eq_true x0, decide_eq_true x2]
      wtm_at "rd"
      refine rd_acc hD2 (by rw [List.length_map, List.length_replicate]; omega) ?_
      refine ⟨fun b' o' nb hb' => at_upd (ne_of_none hb' fD0) (but2 b' o' nb hb'), at_upd (Ne.symm nDa) hf2, ?_⟩
      rw [upd_same, List.replicate_succ', List.map_append]
      rfl
    · rintro H' ⟨but, hf, hD⟩
      refine ⟨hf, ?_⟩
      have s1 := lk_same hwd but
      have hD1 := at_upd (o := .dK (kvF ws w)) nDa hD
      generalize upd H' wd (.dK (kvF ws w)) = H1 at *
      wtm_at "rd"
      refine rd_allL (SqL.of hD1) ?_
      rw [show (List.replicate _ true).all id = true from by simp]
      wtm_at "rd"
      exact q H1 s1
theorem ok_isBrO {f : Addr} {fd : FuncData} (F : Fun K "is_branch" "is_branch" s_is_branch f fd) (B : Bt mg) : FnG P w K mg base CX0 1 f fd ["graph", "state", "wanted", "candidate", "known", "unbounded", "pinned"] (spIsBrO K) := by
  refine fnG0 F sc_is_branch (fun vs H Q E h => ?_) (fun cdv A outer s H vs Q E hr h => ?_)
  · obtain ⟨v, g, st, wd, kd, fr, ps, t, rfl, _⟩ := h
    rfl
  · obtain ⟨v, g, st, wd, kd, fr, ps, t, rfl, ht, hf, q⟩ := h
    have nd := sc_is_branch.nd
    have hu := hr.u1
    refine ⟨_, (pss_cons (ps_if (PW.pt (pw_or (pt_not (pt_val (pe_callB (kIsi K rfl) (by rfl) B.isinstance bb_isinstance (pa_cons (pv 3) (pa_cons (pe_ty rfl B.tuple bb_tuple) pa_nil))))) (pw_or1 (pt_cmpR (kNe K rfl hr.u64) (pe_callB (kLen K rfl) (by rfl) B.len bb_len (pa_cons (pv 3) pa_nil)) pe_int (nomark _))))) (pss_one (ps_ret pe_bl)) pss_nil)
  (pss_cons (ps_dead)
  (pss_cons (ps_dead)
  (pss_cons (ps_dead)
  (pss_cons (ps_dead)
  (pss_cons (ps_dead)
  (pss_cons (ps_dead)
  (pss_one (ps_dead))))))))), ?_⟩
    wtm_at "rd"
    refine rd_isi ht rfl ?_
    rw [hf]
    wtm_at "rd"
    exact q
def spIsBrU (K : PySem.W.Frag) : Sp := fun vs H Q E => spIsBr K 4 vs H Q E ∨ spIsBrO K vs H Q E
theorem ok_isBrU {f : Addr} {fd : FuncData} (F : Fun K "is_branch" "is_branch" s_is_branch f fd) (B : Bt mg) (C : ZUi P w K mg base) (S : SelfR K mg "is_branch" f fd ["graph", "state", "wanted", "candidate", "known", "unbounded", "pinned"]) : FnG P w K mg base CX0 13 f fd ["graph", "state", "wanted", "candidate", "known", "unbounded", "pinned"] (spIsBrU K) := by
  exact ⟨fun vs H Q E h => h.elim ((ok_isBr (P := P) (w := w) (base := base) F B C S 4).len vs H Q E) ((ok_isBrO (P := P) (w := w) (base := base) F B).len vs H Q E), fun A outer s H args us vs Q E hr he hb hv h => h.elim (fun h => (ok_isBr (P := P) (w := w) (base := base) F B C S 4).go A outer s H args us vs Q E hr he hb hv h) fun h => (ok_isBrO (P := P) (w := w) (base := base) F B).go A outer s H args us vs Q E (hr.mono (by omega)) he hb hv h⟩
structure ZHb (P : Program) (w : World) (K : PySem.W.Frag) (mg : Str → Option Value) (base : Heap) : Prop where
  check_wanted : Cal P w K mg base CX0 3 "check_wanted" spCkW
theorem ok_isRf {f : Addr} {fd : FuncData} (F : Fun K "is_refutation" "is_refutation" s_is_refutation f fd) (B : Bt mg) (C : ZHb P w K mg base) (C2 : Cal P w K mg base CX0 13 "is_branch" (spIsBrU K)) : FnG P w K mg base CX0 14 f fd ["graph", "state", "wanted", "candidate", "pinned"] (spIsRf K 4) := by
  refine fnG0 F sc_is_refutation (fun vs H Q E h => ?_) (fun cdv A outer s H vs Q E hr h => ?_)
  · obtain ⟨g, n, e, st, wd, ps, v, ns, ord, ws, pn, es, f, w, rfl, _⟩ := h
    rfl
  · obtain ⟨g, n, e, st, wd, ps, v, ns, ord, ws, pn, es, f, w, rfl, gs, hps, hwd, w1, w3, wok, alt⟩ := h
    have nd := sc_is_refutation.nd
    have hu := hr.u1
    refine ⟨_, (pss_cons (ps_expr (pe_c C.check_wanted hr (by decide) rfl (pa_cons (pv 0) (pa_cons (pv 2) pa_nil))))
  (pss_one (ps_ret (pe_c C2 hr (by decide) rfl (pa_cons (pv 0) (pa_cons (pv 1) (pa_cons (pv 2) (pa_cons (pv 3) (pa_cons pe_dnewK (pa_cons (pe_lst pa_nil) (pa_cons (pv 4) pa_nil))))))))))), ?_⟩
    wtm_at "rd"
    refine ⟨g, n, e, wd, ns, ws, es, w, rfl, gs.grs, hwd, w1, w3, wok, fun H1 s1 => ?_⟩
    wtm_at "rd"
    intro kd fkd
    have kkd := Same.new (o := .dK []) fkd
    have hkd := @upd_same H1 kd (.dK [])
    have s1 := s1.trans kkd
    generalize upd H1 kd (.dK []) = H2 at hkd s1
    clear kkd fkd
    wtm_at "rd"
    intro fr ffr
    have kfr := Same.new (o := .lst []) ffr
    have hfr := @upd_same H2 fr (.lst [])
    have hkd := kfr _ _ hkd
    have s1 := s1.trans kfr
    generalize upd H2 fr (.lst []) = H3 at hfr hkd s1
    clear kfr ffr
    wtm_at "rd"
    rcases alt with ⟨T, dp, tok, tdp, _, q⟩ | ⟨t, ht, hf, q⟩
    · refine .inl ⟨g, n, e, st, wd, kd, fr, ps, v, T, ns, ord, ws, pn, [], [], es, f, w, fun _ => 0, rfl, ⟨gs.same s1, s1 _ _ hwd, hkd, hfr, Same.seqT s1 hps, Nat.zero_le _, Nat.zero_le _, (fun y h => nomatch h), (fun y h => nomatch h)⟩, by decide, by decide, Dp.same dp s1, tok, tdp, fun b H4 s4 hb => q b H4 (s1.trans s4) hb⟩
    · exact .inr ⟨v, _, _, _, _, _, _, t, rfl, tyx_same ht s1, hf, q H3 s1⟩
end
end Law


/-! k30: _law_sum_of, _law_is_path, _law_is_parted, _law_compute_expected -/
namespace Law
open PySem PySem.Spec PyProof.Rows L2 U LamX


section
variable {P : Program} {w : World} {K : PySem.W.Frag} {mg : Str → Option Value} {base : Heap}
end
end Law

/-! a list turned round: its place is not that of the modules' table -/
namespace U
open PySem PySem.W PySem.Calls PyProof.Rows PyProof.V PySem.Spec L2
variable {X : Cx}
end U

/-! slices of a tuple, and of a list, backwards -/
namespace U
open PySem PySem.W PySem.Calls PyProof.Rows PyProof.V PySem.Spec L2 HT
section
variable {prog : Program} {w : World} {A : Around} {E : Value → Shared → Prop} {s : Shared}
end
end U


/-! k30: _law_follow, _law_draw_lift, _law_make_variant -/
namespace Law
open PySem PySem.Spec PyProof.Rows L2 U LamX


theorem sqL_extD {K : PySem.W.Frag} {H H' : Hp} {a : Addr} {xs : List V} (h : SqL K H a xs) (x : ExtN H H') : SqL K H' a xs := by
  rcases h with (h | ⟨o, h⟩) | h
  · exact .inl (.inl (x _ _ h fun _ z => nomatch z))
  · exact .inl (.inr ⟨o, x _ _ h fun _ z => nomatch z⟩)
  · exact .inr h
theorem hid_ext {p : Addr} {H H' : Hp} (x : ExtN H H') : ExtN (hid p H) (hid p H') := fun a o h n => by
  have h : (if a = p then none else H a) = some o := h
  show (if a = p then none else H' a) = some o
  by_cases e : a = p
  · rw [if_pos e] at h
    cases h
  · rw [if_neg e] at h ⊢
    exact x _ _ h n
theorem hid_goN {T : List (Addr × Str)} {p : Addr} {H H' : Hp} (x : GoN T p H H') : ExtN (hid p H) (hid p H') := fun a o h n => by
  have h : (if a = p then none else H a) = some o := h
  show (if a = p then none else H' a) = some o
  by_cases e : a = p
  · rw [if_pos e] at h
    cases h
  · rw [if_neg e] at h ⊢
    exact x.but _ _ e h n
/-- data, but for the place of the draws -/
def Cn (K : PySem.W.Frag) (p : Addr) (m : Nat) (H : Hp) (v : V) : Prop := ∃ d, Dp K (hid p H) v d ∧ d.canLay0 = true ∧ d.depth ≤ m
theorem Cn.ext {K : PySem.W.Frag} {p : Addr} {m : Nat} {H H' : Hp} {v : V} (h : Cn K p m H v) (x : ExtN (hid p H) (hid p H')) : Cn K p m H' v := by
  obtain ⟨d, a, b⟩ := h
  exact ⟨d, dp_ext (fun _ _ q => sqL_extD q x) (fun _ _ q => sqT_ext q x) _ _ a, b⟩
theorem Cn.same {K : PySem.W.Frag} {p : Addr} {m : Nat} {H H' : Hp} {v : V} (h : Cn K p m H v) (s : Same H H') : Cn K p m H' v := h.ext (hid_ext (ExtN.of s))
theorem Cn.up {K : PySem.W.Frag} {p : Addr} {m m2 : Nat} {H : Hp} {v : V} (h : Cn K p m H v) (l : m ≤ m2) : Cn K p m2 H v := by
  obtain ⟨d, a, b, c⟩ := h
  exact ⟨d, a, b, Nat.le_trans c l⟩
theorem Cn.non {K : PySem.W.Frag} {p : Addr} {m : Nat} {H : Hp} : Cn K p m H .non := ⟨_, .non, by simp [PyData.canLay0], by simp [PyData.depth]⟩
theorem Cn.int {K : PySem.W.Frag} {p : Addr} {m : Nat} {H : Hp} {i : Int} : Cn K p m H (.int i) := ⟨_, .int i, by simp [PyData.canLay0], by simp [PyData.depth]⟩
theorem Cn.str {K : PySem.W.Frag} {p : Addr} {m : Nat} {H : Hp} {s : Str} (h : PyData.strOk s = true) : Cn K p m H (.str s) := ⟨_, .str s, by rw [PyData.canLay0]; exact h, by simp [PyData.depth]⟩
/-- the parts of a tuple or a list, as data -/
theorem cn_all {K : PySem.W.Frag} {p : Addr} {m : Nat} {H : Hp} : ∀ {us : List V}, (∀ u ∈ us, Cn K p m H u) → ∃ ds, DpAll K (hid p H) us ds ∧ PyData.canLayAll0 ds = true ∧ PyData.depthAll ds ≤ m
  | [], _ => ⟨[], .nil, by simp [PyData.canLayAll0], by simp [PyData.depthAll]⟩
  | u :: r, h => by
    obtain ⟨d, a, b, c⟩ := h u List.mem_cons_self
    obtain ⟨ds, a2, b2, c2⟩ := cn_all fun x hx => h x (List.mem_cons_of_mem _ hx)
    refine ⟨d :: ds, .cons a a2, ?_, ?_⟩
    · rw [PyData.canLayAll0, b, b2]
      rfl
    · rw [PyData.depthAll]
      omega
theorem Cn.tup {K : PySem.W.Frag} {p t : Addr} {m : Nat} {H : Hp} {us : List V} (h : H t = some (.tup us)) (n : t ≠ p) (hu : ∀ u ∈ us, Cn K p m H u) : Cn K p (m + 1) H (.ref t) := by
  obtain ⟨ds, a, b, c⟩ := cn_all hu
  exact ⟨_, .tup (SqT.of (hid_at h n)) a, by rw [PyData.canLay0]; exact b, by rw [PyData.depth]; omega⟩
theorem Cn.lst {K : PySem.W.Frag} {p t : Addr} {m : Nat} {H : Hp} {us : List V} (h : H t = some (.lst us)) (n : t ≠ p) (hu : ∀ u ∈ us, Cn K p m H u) : Cn K p (m + 1) H (.ref t) := by
  obtain ⟨ds, a, b, c⟩ := cn_all hu
  exact ⟨_, .lst (SqL.of (hid_at h n)) a, by rw [PyData.canLay0]; exact b, by rw [PyData.depth]; omega⟩
theorem Cn.strs {K : PySem.W.Frag} {p t : Addr} {H : Hp} {q : List Str} (hp : PoolAt H p) (h : H t = some (.lst (q.map V.str))) (hu : ∀ u ∈ q, PyData.strOk u = true) : Cn K p 1 H (.ref t) := Cn.lst (m := 0) h (hp.off h) fun u hu' => by
  obtain ⟨z, hz, rfl⟩ := List.mem_map.mp hu'
  exact .str (hu z hz)
/-- a tuple of two to four parts -/
def TupC (K : PySem.W.Frag) (p : Addr) (H : Hp) (v : V) : Prop := ∃ c us, v = .ref c ∧ H c = some (.tup us) ∧ 2 ≤ us.length ∧ us.length ≤ 4 ∧ ∀ u ∈ us, Cn K p 3 H u
theorem TupC.cn {K : PySem.W.Frag} {p : Addr} {H : Hp} {v : V} (h : TupC K p H v) (hp : PoolAt H p) : Cn K p 4 H v := by
  obtain ⟨c, us, rfl, h1, _, _, h2⟩ := h
  exact Cn.tup h1 (hp.offT h1) h2
theorem TupC.keep {K : PySem.W.Frag} {p : Addr} {H H' : Hp} {v : V} (h : TupC K p H v) (hp : PoolAt H p) (x : ExtN (hid p H) (hid p H')) : TupC K p H' v := by
  obtain ⟨c, us, rfl, h1, h2, h3, h4⟩ := h
  have h5 : hid p H' c = some (.tup us) := x _ _ (hid_at h1 (hp.offT h1)) fun _ z => nomatch z
  exact ⟨c, us, rfl, hid_le _ _ h5, h2, h3, fun u hu => (h4 u hu).ext x⟩
theorem cn_cert {K : PySem.W.Frag} {p t a b : Addr} {H : Hp} {q1 q2 : List Str} {ns : List Str} (hp : PoolAt H p) (sok : ∀ x ∈ ns, PyData.strOk x = true) (h1 : H t = some (.tup [.ref a, .ref b])) (h2 : H a = some (.lst (q1.map V.str))) (h3 : H b = some (.lst (q2.map V.str))) (i1 : ∀ x ∈ q1, x ∈ ns) (i2 : ∀ x ∈ q2, x ∈ ns) : Cn K p 2 H (.ref t) := Cn.tup (m := 1) h1 (hp.offT h1) fun u hu => by
  simp only [List.mem_cons, List.not_mem_nil, or_false] at hu
  rcases hu with rfl | rfl
  · exact Cn.strs hp h2 fun x hx => sok x (i1 x hx)
  · exact Cn.strs hp h3 fun x hx => sok x (i2 x hx)
/-- a certificate of lists of texts, or None -/
def CeS (ns : List Str) (H : Hp) (u : V) : Prop := u = .non ∨ ∃ t a b q1 q2, u = .ref t ∧ H t = some (.tup [.ref a, .ref b]) ∧ H a = some (.lst (q1.map V.str)) ∧ H b = some (.lst (q2.map V.str)) ∧ q1 ≠ [] ∧ q2 ≠ [] ∧ (∀ x ∈ q1, x ∈ ns) ∧ ∀ x ∈ q2, x ∈ ns
theorem CeS.mono {ns : List Str} {H H' : Hp} {u : V} (h : CeS ns H u) (ht : ∀ t xs, H t = some (.tup xs) → H' t = some (.tup xs)) (hl : ∀ (a : Addr) (q : List Str), q ≠ [] → H a = some (.lst (q.map V.str)) → H' a = some (.lst (q.map V.str))) : CeS ns H' u := by
  rcases h with h | ⟨t, a, b, q1, q2, e, h1, h2, h3, n1, n2, i1, i2⟩
  · exact .inl h
  · exact .inr ⟨t, a, b, q1, q2, e, ht _ _ h1, hl _ _ n1 h2, hl _ _ n2 h3, n1, n2, i1, i2⟩
theorem CeS.cn {K : PySem.W.Frag} {p : Addr} {ns : List Str} {H : Hp} {u : V} (h : CeS ns H u) (hp : PoolAt H p) (sok : ∀ x ∈ ns, PyData.strOk x = true) : Cn K p 2 H u := by
  rcases h with rfl | ⟨t, a, b, q1, q2, rfl, h1, h2, h3, _, _, i1, i2⟩
  · exact .non
  · exact cn_cert hp sok h1 h2 h3 i1 i2
/-- what _law_draw_lift gives -/
inductive DrL (ns : List Str) (H : Hp) : V → Prop
  | cyc {t l : Addr} {q : List Str} : H t = some (.tup [.str "cycle", .ref l]) → H l = some (.lst (q.map V.str)) → q ≠ [] → (∀ z ∈ q, z ∈ ns) → DrL ns H (.ref t)
  | node {t : Addr} {x : Str} {u : V} : H t = some (.tup [.str "node", .str x, u]) → x ∈ ns → CeS ns H u → DrL ns H (.ref t)
  | path {t l : Addr} {q : List Str} {u1 u2 : V} : H t = some (.tup [.str "path", .ref l, u1, u2]) → H l = some (.lst (q.map V.str)) → q ≠ [] → (∀ z ∈ q, z ∈ ns) → CeS ns H u1 → CeS ns H u2 → DrL ns H (.ref t)
theorem DrL.mono {ns : List Str} {H H' : Hp} {u : V} (h : DrL ns H u) (ht : ∀ t xs, H t = some (.tup xs) → H' t = some (.tup xs)) (hl : ∀ (a : Addr) (q : List Str), q ≠ [] → H a = some (.lst (q.map V.str)) → H' a = some (.lst (q.map V.str))) : DrL ns H' u := by
  cases h with
  | cyc a b c d => exact .cyc (ht _ _ a) (hl _ _ c b) c d
  | node a b c => exact .node (ht _ _ a) b (c.mono ht hl)
  | path a b c d e f => exact .path (ht _ _ a) (hl _ _ c b) c d (e.mono ht hl) (f.mono ht hl)
theorem DrL.ext {ns : List Str} {H H' : Hp} {u : V} (h : DrL ns H u) (x : ExtN H H') : DrL ns H' u := h.mono (fun _ _ => ExtN.tu x) fun _ _ _ => ExtN.li x
theorem DrL.goN {T : List (Addr × Str)} {p : Addr} {ns : List Str} {H H' : Hp} {u : V} (h : DrL ns H u) (hp : PoolAt H p) (g : GoN T p H H') : DrL ns H' u := h.mono (fun _ _ => g.tu hp) fun _ _ _ z => g.li (hp.off z) z
theorem DrL.ref {ns : List Str} {H : Hp} {u : V} (h : DrL ns H u) : u = .non ∨ ∃ a, u = .ref a := by cases h <;> exact .inr ⟨_, rfl⟩
section
variable {P : Program} {w : World} {K : PySem.W.Frag} {mg : Str → Option Value} {base : Heap}
end
end Law


/-! k30: _law_make_variant -/
namespace Law
open PySem PySem.Spec PyProof.Rows L2 U LamX


/-- data or an empty dict -/
def GnV (K : PySem.W.Frag) (p : Addr) (H : Hp) (v : V) : Prop := Cn K p 5 H v ∨ ∃ a, v = .ref a ∧ H a = some (.dK [])
theorem GnV.same {K : PySem.W.Frag} {p : Addr} {H H' : Hp} {v : V} (h : GnV K p H v) (s : Same H H') : GnV K p H' v := h.imp (fun h => h.same s) fun ⟨a, e, h⟩ => ⟨a, e, s _ _ h⟩
theorem GnV.go {T : List (Addr × Str)} {K : PySem.W.Frag} {p : Addr} {H H' : Hp} {v : V} (h : GnV K p H v) (hp : PoolAt H p) (g : GoN T p H H') : GnV K p H' v := h.imp (fun h => h.ext (hid_goN g)) fun ⟨a, e, h⟩ => ⟨a, e, g.dk hp h⟩
section
variable {P : Program} {w : World} {K : PySem.W.Frag} {mg : Str → Option Value} {base : Heap}
end
end Law


/-! a triangle, and paths around it -/
namespace U
open PySem PySem.Spec PyProof.Rows L2
def triN : List Str := ["a", "b", "c"]
def triE : List (Str × Str) := [("a", "b"), ("a", "c"), ("b", "c")]
def triF (i j k : Int) : Str → Int := fun s => if s = "a" then i else if s = "b" then j else k
theorem tri_ab : Adj triE "a" "b" := .inl List.mem_cons_self
theorem tri_ac : Adj triE "a" "c" := .inl (List.mem_cons_of_mem _ List.mem_cons_self)
theorem tri_bc : Adj triE "b" "c" := .inl (List.mem_cons_of_mem _ (List.mem_cons_of_mem _ List.mem_cons_self))
theorem dpS {K : PySem.W.Frag} {H : Hp} : ∀ p : List Str, DpAll K H (p.map V.str) (p.map PyData.str)
  | [] => .nil
  | _ :: r => .cons (.str _) (dpS r)
section
variable {ns : List Str} {es : List (Str × Str)} {f g h : Str → Int} {pn : List Str} {x : Str}
theorem CerP.dat {dir : Int} {p : List Str} (c : CerP ns es f pn dir x p) (nl : ns.length ≤ 100) : cerD ns es f pn dir x (.list (p.map PyData.str)) := by
  refine ⟨p, pathD_some.mpr ⟨rfl, ?_, ?_, c.in_, c.sl.wk⟩, c.hd, c.sl, c.en⟩
  · have := c.hd
    cases p with
    | nil => cases this
    | cons a r => simp
  · have := c.ln
    omega
end
end U
namespace Law
open PySem PySem.Spec PyProof.Rows L2 U LamX


theorem tri_ok : GrOk triN triE := by
  refine ⟨⟨?_, ?_⟩, ?_, ?_, ?_⟩
  · show triN.Pairwise sLt
    decide +kernel
  · intro y hy
    simp only [triN, List.mem_cons, List.not_mem_nil, or_false] at hy
    rcases hy with rfl | rfl | rfl <;> exact ⟨by decide, by decide, by decide⟩
  · show triE.Pairwise eLt
    decide +kernel
  · decide +kernel
  · decide +kernel
theorem gst_tri {H : Hp} {g n e e1 e2 e3 st : Addr} {i j k : Int} (hg : H g = some (.tup [.ref n, .ref e])) (hn : H n = some (.tup [.str "a", .str "b", .str "c"])) (he : H e = some (.tup [.ref e1, .ref e2, .ref e3])) (h1 : H e1 = some (.tup [.str "a", .str "b"])) (h2 : H e2 = some (.tup [.str "a", .str "c"])) (h3 : H e3 = some (.tup [.str "b", .str "c"])) (hst : H st = some (.dK (kvF triN (triF i j k)))) (r : (0 ≤ i ∧ i < 3) ∧ (0 ≤ j ∧ j < 3) ∧ (0 ≤ k ∧ k < 3)) (d : i ≠ j ∧ i ≠ k ∧ j ≠ k) : GSt H g n e st triN triN [(e1, "a", "b"), (e2, "a", "c"), (e3, "b", "c")] (triF i j k) := by
  have fa : triF i j k "a" = i := rfl
  have fb : triF i j k "b" = j := rfl
  have fc : triF i j k "c" = k := rfl
  refine ⟨⟨hg, hn, he, fun x hx => ?_⟩, tri_ok, .refl _, by decide, by show 3 ≤ 1000; decide, hst, fun x hx => ?_, fun x hx => ?_⟩
  · simp only [List.mem_cons, List.not_mem_nil, or_false] at hx
    rcases hx with rfl | rfl | rfl
    · exact h1
    · exact h2
    · exact h3
  · simp only [triN, List.mem_cons, List.not_mem_nil, or_false] at hx
    rcases hx with rfl | rfl | rfl
    · rw [fa]; exact r.1
    · rw [fb]; exact r.2.1
    · rw [fc]; exact r.2.2
  · simp only [List.mem_cons, List.not_mem_nil, or_false] at hx
    rcases hx with rfl | rfl | rfl
    · exact d.1
    · exact d.2.1
    · exact d.2.2
theorem rd_disp3 {i j k : Int} {σ : L2.St} {H : Hp} {Q : VK} (h : ∀ p, H p = none → Q (.ref p) (upd H p (.dK (kvF triN (triF i j k))))) : tDisp [(tC (.str "a"), tC (.int i)), (tC (.str "b"), tC (.int j)), (tC (.str "c"), tC (.int k))] σ H Q := fun p fp => by
  refine ⟨upd_same, [(.inr "a", .int i), (.inr "b", .int j), (.inr "c", .int k)], rfl, by show 3 ≤ 15; decide, ?_⟩
  rw [L2.upd_upd]
  exact h p fp
theorem rd_repL {H : Hp} {Q : VK} {l : Addr} {xs : List V} {m : Nat} (hl : H l = some (.lst xs)) (h1 : m ≤ 1000) (h2 : xs.length ≤ 10) (h : ∀ p, H p = none → Q (.ref p) (upd H p (.lst (List.replicate m xs).flatten))) : rMulU (.ref l) (.int m) H Q := by
  refine ⟨l, m, xs, rfl, rfl, hl, by omega, by omega, ?_, fun p fp => ?_⟩
  · have : xs.length * ((m : Int)).toNat ≤ 10 * 1000 := Nat.mul_le_mul h2 (by omega)
    exact Nat.le_trans this (by decide)
  · rw [Int.toNat_natCast]
    exact h p fp
end Law


/-! k54: _law_long_paths_hold -/
namespace U
open PySem PySem.Spec PyProof.Rows L2
/-- round the triangle from b -/
def bac (m : Nat) : List Str := (List.replicate m (["b", "a", "c"] : List Str)).flatten ++ [("b" : Str)]
theorem bac_s (m : Nat) : bac (m + 1) = ("b" : Str) :: ("a" : Str) :: ("c" : Str) :: bac m := rfl
theorem bac_h (m : Nat) : ∃ r : List Str, bac m = ("b" : Str) :: r := by
  cases m with
  | zero => exact ⟨[], rfl⟩
  | succ m => exact ⟨_, bac_s m⟩
theorem bac_len : ∀ m, (bac m).length = 3 * m + 1
  | 0 => rfl
  | m + 1 => by
    rw [bac_s]
    simp only [List.length_cons, bac_len m]
    omega
theorem bac_last : ∀ m, (bac m).getLast? = some ("b" : Str)
  | 0 => rfl
  | m + 1 => by
    obtain ⟨r, e⟩ := bac_h m
    have ih := bac_last m
    rw [bac_s, e]
    rw [e] at ih
    rw [List.getLast?_cons_cons, List.getLast?_cons_cons, List.getLast?_cons_cons]
    exact ih
theorem bac_in : ∀ m, ∀ y ∈ bac m, y ∈ triN
  | 0, y, h => by
    rw [List.mem_singleton.mp h]
    exact List.mem_cons_of_mem _ List.mem_cons_self
  | m + 1, y, h => by
    rw [bac_s] at h
    simp only [List.mem_cons] at h
    rcases h with rfl | rfl | rfl | h
    · exact List.mem_cons_of_mem _ List.mem_cons_self
    · exact List.mem_cons_self
    · exact List.mem_cons_of_mem _ (List.mem_cons_of_mem _ List.mem_cons_self)
    · exact bac_in m y h
theorem bac_wk : ∀ m, Wk triE (bac m)
  | 0 => trivial
  | m + 1 => by
    obtain ⟨r, e⟩ := bac_h m
    have ih := bac_wk m
    rw [bac_s, e]
    rw [e] at ih
    exact ⟨tri_ab.symm, tri_ac, tri_bc.symm, ih⟩
theorem bac_st : ∀ m, stN (triF 0 1 2) 1 (bac m) = 0
  | 0 => rfl
  | m + 1 => by
    obtain ⟨r, e⟩ := bac_h m
    have ih := bac_st m
    rw [bac_s, e]
    rw [e] at ih
    have e1 : stN (triF 0 1 2) 1 (("b" : Str) :: ("a" : Str) :: ("c" : Str) :: ("b" : Str) :: r) = (if slp (triF 0 1 2) "b" "a" = 1 then 1 else 0) + ((if slp (triF 0 1 2) "a" "c" = 1 then 1 else 0) + ((if slp (triF 0 1 2) "c" "b" = 1 then 1 else 0) + stN (triF 0 1 2) 1 (("b" : Str) :: r))) := rfl
    rw [e1, ih, if_neg (by decide +kernel), if_neg (by decide +kernel), if_neg (by decide +kernel)]
def bC : List Str × List Str := (["b", "c", "a", "b"], ["b", "a", "c", "b"])
def bTree (m : Nat) : BrT := .node "b" (some ⟨bac m, some bC⟩) (some ⟨["b"], some bC⟩) []
theorem rep_bac {m : Nat} : (List.replicate m ([.str "b", .str "a", .str "c"] : List V)).flatten ++ [.str "b"] = (bac m).map V.str := by
  unfold bac
  rw [List.map_append, List.map_flatten, List.map_replicate]
  rfl
end U
namespace Law
open PySem PySem.Spec PyProof.Rows L2 U LamX


theorem bC_fc : fcQ triN triE (triF 0 1 2) [] "b" bC := by
  have inn : ∀ y ∈ (["b", "a", "c", "b"] : List Str), y ∈ triN := bac_in 1
  refine ⟨_, _, rfl, ⟨["b", "c", "a", "b"], pathD_some.mpr ⟨rfl, by decide, by decide, (fun y hy => inn y ?_), tri_bc, tri_ac.symm, tri_ab, trivial⟩, rfl, ⟨tri_bc, by decide +kernel, tri_ac.symm, by decide +kernel, tri_ab, by decide +kernel, trivial⟩, "b", rfl, .inr List.mem_cons_self⟩,
    ["b", "a", "c", "b"], pathD_some.mpr ⟨rfl, by decide, by decide, inn, tri_ab.symm, tri_ac, tri_bc.symm, trivial⟩, rfl, ⟨tri_ab.symm, by decide +kernel, tri_ac, by decide +kernel, tri_bc.symm, by decide +kernel, trivial⟩, "b", rfl, .inr List.mem_cons_self⟩
  simp only [List.mem_cons, List.not_mem_nil, or_false] at hy ⊢
  rcases hy with h | h | h | h
  · exact .inl h
  · exact .inr (.inr (.inl h))
  · exact .inr (.inl h)
  · exact .inl h
theorem bTree_br {m : Nat} : brP triN triE (triF 0 1 2) [] (fcQ triN triE (triF 0 1 2) []) ["b"] (fun _ => 0) [] (fun _ => 0) [] (bTree m) ↔ m ≤ 333 := by
  have nf : ¬ ∃ z ∈ ([] : List Str), Con triE "b" z := fun ⟨z, h, _⟩ => nomatch h
  obtain ⟨r, e⟩ := bac_h m
  have hd : (bac m).head? = some ("b" : Str) := by rw [e]; rfl
  have b2 : bndN triN triE (triF 0 1 2) [] (fcQ triN triE (triF 0 1 2) []) [] (fun _ => 0) [] "b" (-1) (some ⟨["b"], some bC⟩) = some 0 := by
    unfold bndN
    dsimp only [List.head?]
    rw [if_pos ⟨by decide, bac_in 0, trivial, rfl⟩, if_pos ⟨bC_fc, nf⟩]
    rfl
  unfold bTree
  rw [brP_node]
  constructor
  · rintro ⟨_, _, _, vs, ev, _⟩
    refine Classical.byContradiction fun z => ?_
    have b1 : bndN triN triE (triF 0 1 2) [] (fcQ triN triE (triF 0 1 2) []) [] (fun _ => 0) [] "b" 1 (some ⟨bac m, some bC⟩) = none := by
      unfold bndN
      try dsimp only
      rw [hd]
      try dsimp only
      rw [if_neg fun h => z (by have := h.1; rw [bac_len] at this; omega)]
    unfold reqN at ev
    dsimp only at ev
    rw [b1] at ev
    cases ev
  · intro l
    have b1 : bndN triN triE (triF 0 1 2) [] (fcQ triN triE (triF 0 1 2) []) [] (fun _ => 0) [] "b" 1 (some ⟨bac m, some bC⟩) = some 0 := by
      unfold bndN
      try dsimp only
      rw [hd]
      try dsimp only
      rw [if_pos ⟨by rw [bac_len]; omega, bac_in m, bac_wk m, bac_last m⟩, if_pos ⟨bC_fc, nf⟩, bac_st]
      rfl
    refine ⟨List.mem_cons_of_mem _ List.mem_cons_self, List.mem_cons_self, List.not_mem_nil, nmsF (triF 0 1 2) (fun _ => 0) "b" 0 0, ?_, ?_, ?_⟩
    · unfold reqN
      dsimp only
      rw [b1, b2]
    · decide +kernel
    · rw [show nmsF (triF 0 1 2) (fun _ => 0) "b" 0 0 = [] from by decide +kernel]
      simp only [brPs]
def spLg54 : Sp := fun vs H Q _ => vs = [] ∧ ∀ H' : Hp, Same H H' → Q (.bl true) H'
theorem rd_disp54 {k : Str} {i : Int} {σ : L2.St} {H : Hp} {Q : VK} (h : ∀ p, H p = none → Q (.ref p) (upd H p (.dK (kvF [k] fun _ => i)))) : tDisp [(tC (.str k), tC (.int i))] σ H Q := fun p fp => by
  refine ⟨upd_same, [(.inr k, .int i)], rfl, by show 1 ≤ 15; decide, ?_⟩
  rw [L2.upd_upd]
  exact h p fp
theorem rd_eqTF {K : PySem.W.Frag} {H : Hp} {Q : VK} {p q : Addr} (hp : H p = some (.lst [.bl true, .bl false])) (hq : H q = some (.lst [.bl true, .bl false])) (h : Q (.bl true) H) : rEqU K (.ref p) (.ref q) H Q := by
  refine ⟨_, _, .lst (SqL.of hp) (.cons (.bl _) (.cons (.bl _) .nil)), .lst (SqL.of hq) (.cons (.bl _) (.cons (.bl _) .nil)), by decide, by decide, ?_⟩
  have : PyData.eqv (.list [.bool true, .bool false]) (.list [.bool true, .bool false]) = true := by decide
  rw [this]
  exact h
section
variable {P : Program} {w : World} {K : PySem.W.Frag} {mg : Str → Option Value} {base : Heap}
structure ZKa (P : Program) (w : World) (K : PySem.W.Frag) (mg : Str → Option Value) (base : Heap) (ti : Addr) : Prop where
  is_refutation_d : CalD P w K mg base CX0 14 "is_refutation" [.ref ti] (spIsRf K 4)
  si : ∀ H, SqT K H ti []
theorem ok_lg54 {f : Addr} {fd : FuncData} {ti : Addr} (F : Fun K "_law_long_paths_hold" "_law_long_paths_hold" s__law_long_paths_hold f fd) (B : Bt mg) (C : ZKa P w K mg base ti) : FnG P w K mg base CX0 15 f fd [] spLg54 := by
  refine fnG0 F sc__law_long_paths_hold (fun vs H Q E h => ?_) (fun cdv A outer s H vs Q E hr h => ?_)
  · obtain ⟨rfl, _⟩ := h
    rfl
  · obtain ⟨rfl, q⟩ := h
    have nd := sc__law_long_paths_hold.nd
    have hu := hr.u1
    refine ⟨_, (pss_cons (ps_set (i := 0) nd rfl (by first | exact Or.inl rfl | exact Or.inr rfl) (pe_tup (pa_cons (pe_tup (pa_cons pe_str (pa_cons pe_str (pa_cons pe_str pa_nil)))) (pa_cons (pe_tup (pa_cons (pe_tup (pa_cons pe_str (pa_cons pe_str pa_nil))) (pa_cons (pe_tup (pa_cons pe_str (pa_cons pe_str pa_nil))) (pa_cons (pe_tup (pa_cons pe_str (pa_cons pe_str pa_nil))) pa_nil)))) pa_nil))))
  (pss_cons (ps_set (i := 1) nd rfl (by first | exact Or.inl rfl | exact Or.inr rfl) (pe_disp (pps_cons pe_str pe_int (pps_cons pe_str pe_int (pps_cons pe_str pe_int pps_nil))) (by rfl) (by rfl) (fun z => by cases z) (by decide)))
  (pss_cons (ps_set (i := 2) nd rfl (by first | exact Or.inl rfl | exact Or.inr rfl) (pe_tup (pa_cons (pe_lst (pa_cons pe_str (pa_cons pe_str (pa_cons pe_str (pa_cons pe_str pa_nil))))) (pa_cons (pe_lst (pa_cons pe_str (pa_cons pe_str (pa_cons pe_str (pa_cons pe_str pa_nil))))) pa_nil))))
  (pss_cons (ps_set (i := 3) nd rfl (by first | exact Or.inl rfl | exact Or.inr rfl) (pe_lst pa_nil))
  (pss_cons (ps_for PassesOwn.never rfl (ki_list K rfl (pe_lst (pa_cons pe_int (pa_cons pe_int pa_nil)))) (pg_name (i := 4) nd rfl (by first | exact Or.inl rfl | exact Or.inr rfl)) (pss_cons (ps_set (i := 5) nd rfl (by first | exact Or.inl rfl | exact Or.inr rfl) (pe_tup (pa_cons (pe_op (kAdd K rfl) (pe_op uMul (pe_lst (pa_cons pe_str (pa_cons pe_str (pa_cons pe_str pa_nil)))) (pv 4)) (pe_lst (pa_cons pe_str pa_nil))) (pa_cons (pv 2) pa_nil))))
  (pss_cons (ps_set (i := 6) nd rfl (by first | exact Or.inl rfl | exact Or.inr rfl) (pe_tup (pa_cons pe_str (pa_cons (pv 5) (pa_cons (pe_tup (pa_cons (pe_lst (pa_cons pe_str pa_nil)) (pa_cons (pv 2) pa_nil))) (pa_cons (pe_lst pa_nil) pa_nil))))))
  (pss_one (ps_expr (pe_bm PySem.F.plainAttrs_list PySem.F.slot_list_append PySem.F.type_list_append mt_append (pv 3) (pa_cons (pe_cD C.is_refutation_d hr (by decide) rfl pass0 (pa_cons (pv 0) (pa_cons (pv 1) (pa_cons (pe_disp (pps_cons pe_str pe_int pps_nil) (by rfl) (by rfl) (fun z => by cases z) (by decide)) (pa_cons (pv 6) pa_nil))))) pa_nil)))))))
  (pss_one (ps_ret (pe_cmpR (kEq K rfl hr.u64) (pv 3) (pe_lst (pa_cons pe_bl (pa_cons pe_bl pa_nil))) (nomark _))))))))), ?_⟩
    have sm : Same H H := fun b o h => h
    wtm_at "rd"
    intro n fn
    have kn := Same.new (o := .tup [.str "a", .str "b", .str "c"]) fn
    have hn := @upd_same H n (.tup [.str "a", .str "b", .str "c"])
    have sm := sm.trans kn
    generalize upd H n (.tup [.str "a", .str "b", .str "c"]) = HA at hn sm
    clear kn fn
    wtm_at "rd"
    intro e1 fe1
    have ke1 := Same.new (o := .tup [.str "a", .str "b"]) fe1
    have he1 := @upd_same HA e1 (.tup [.str "a", .str "b"])
    have hn := ke1 _ _ hn
    have sm := sm.trans ke1
    generalize upd HA e1 (.tup [.str "a", .str "b"]) = HB at he1 hn sm
    clear ke1 fe1
    wtm_at "rd"
    intro e2 fe2
    have ke2 := Same.new (o := .tup [.str "a", .str "c"]) fe2
    have he2 := @upd_same HB e2 (.tup [.str "a", .str "c"])
    have hn := ke2 _ _ hn
    have he1 := ke2 _ _ he1
    have sm := sm.trans ke2
    generalize upd HB e2 (.tup [.str "a", .str "c"]) = HC at he2 hn he1 sm
    clear ke2 fe2
    wtm_at "rd"
    intro e3 fe3
    have ke3 := Same.new (o := .tup [.str "b", .str "c"]) fe3
    have he3 := @upd_same HC e3 (.tup [.str "b", .str "c"])
    have hn := ke3 _ _ hn
    have he1 := ke3 _ _ he1
    have he2 := ke3 _ _ he2
    have sm := sm.trans ke3
    generalize upd HC e3 (.tup [.str "b", .str "c"]) = HD at he3 hn he1 he2 sm
    clear ke3 fe3
    wtm_at "rd"
    intro e fe
    have ke := Same.new (o := .tup [.ref e1, .ref e2, .ref e3]) fe
    have he := @upd_same HD e (.tup [.ref e1, .ref e2, .ref e3])
    have hn := ke _ _ hn
    have he1 := ke _ _ he1
    have he2 := ke _ _ he2
    have he3 := ke _ _ he3
    have sm := sm.trans ke
    generalize upd HD e (.tup [.ref e1, .ref e2, .ref e3]) = HE at he hn he1 he2 he3 sm
    clear ke fe
    wtm_at "rd"
    intro g fg
    have kg := Same.new (o := .tup [.ref n, .ref e]) fg
    have hg := @upd_same HE g (.tup [.ref n, .ref e])
    have hn := kg _ _ hn
    have he1 := kg _ _ he1
    have he2 := kg _ _ he2
    have he3 := kg _ _ he3
    have he := kg _ _ he
    have sm := sm.trans kg
    generalize upd HE g (.tup [.ref n, .ref e]) = HF at hg hn he1 he2 he3 he sm
    clear kg fg
    wtm_at "rd"
    refine rd_disp3 ?_
    intro st fst
    have kst := Same.new (o := .dK (kvF triN (triF 0 1 2))) fst
    have hst := @upd_same HF st (.dK (kvF triN (triF 0 1 2)))
    have hn := kst _ _ hn
    have he1 := kst _ _ he1
    have he2 := kst _ _ he2
    have he3 := kst _ _ he3
    have he := kst _ _ he
    have hg := kst _ _ hg
    have sm := sm.trans kst
    generalize upd HF st (.dK (kvF triN (triF 0 1 2))) = HG at hst hn he1 he2 he3 he hg sm
    clear kst fst
    have gs := gst_tri hg hn he he1 he2 he3 hst (by decide) (by decide)
    clear hn he1 he2 he3 he hst
    generalize hes : [(e1, ("a" : Str), ("b" : Str)), (e2, ("a" : Str), ("c" : Str)), (e3, ("b" : Str), ("c" : Str))] = es at *
    have hes : es.map (·.2) = triE := by rw [← hes]; rfl
    wtm_at "rd"
    intro c1 fc1
    have kc1 := Same.new (o := .lst [.str "b", .str "c", .str "a", .str "b"]) fc1
    have hc1 := @upd_same HG c1 (.lst [.str "b", .str "c", .str "a", .str "b"])
    have sm := sm.trans kc1
    have gs := gs.same kc1
    generalize upd HG c1 (.lst [.str "b", .str "c", .str "a", .str "b"]) = HJ at hc1 sm gs
    clear kc1 fc1
    wtm_at "rd"
    intro c2 fc2
    have kc2 := Same.new (o := .lst [.str "b", .str "a", .str "c", .str "b"]) fc2
    have hc2 := @upd_same HJ c2 (.lst [.str "b", .str "a", .str "c", .str "b"])
    have hc1 := kc2 _ _ hc1
    have sm := sm.trans kc2
    have gs := gs.same kc2
    generalize upd HJ c2 (.lst [.str "b", .str "a", .str "c", .str "b"]) = HL at hc2 hc1 sm gs
    clear kc2 fc2
    wtm_at "rd"
    intro ce fce
    have kce := Same.new (o := .tup [.ref c1, .ref c2]) fce
    have hce := @upd_same HL ce (.tup [.ref c1, .ref c2])
    have hc1 := kce _ _ hc1
    have hc2 := kce _ _ hc2
    have sm := sm.trans kce
    have gs := gs.same kce
    generalize upd HL ce (.tup [.ref c1, .ref c2]) = HM at hce hc1 hc2 sm gs
    clear kce fce
    wtm_at "rd"
    intro rs frs
    have s0 := Same.new (o := .lst []) frs
    have hrs := @upd_same HM rs (.lst [])
    generalize upd HM rs (.lst []) = HN at *
    wtm_at "rd"
    intro l fl
    have kl := Same.new (o := .lst [.int 333, .int 334]) fl
    have hl := @upd_same HN l (.lst [.int 333, .int 334])
    have hrs := kl _ _ hrs
    have s0 := s0.trans kl
    generalize upd HN l (.lst [.int 333, .int 334]) = HO at hl hrs s0
    clear kl fl
    refine rd_forL (SqL.of hl) ?_
    have nlr : l ≠ rs := fun z => by
      rw [z, hrs] at hl
      cases hl
    refine turnsL (K := K) (xs := [.int 333, .int 334]) (fun i σ H' => ∃ u4 u5 u6 : Option V, σ = [some (.ref g), some (.ref st), some (.ref ce), some (.ref rs), u4, u5, u6] ∧ Same HM H' ∧ H' l = some (.lst [.int 333, .int 334]) ∧ H' rs = some (.lst ([V.bl true, V.bl false].take i))) ⟨_, _, _, rfl, s0, hl, hrs⟩ ?_ ?_ ?_
    · rintro i σ H' hi ⟨u4, u5, u6, rfl, s, hl, _⟩
      exact SqL.of hl
    · rintro i y σ H' hy ⟨u4, u5, u6, rfl, s, hl, hrs⟩
      obtain ⟨m, hm, rfl⟩ : ∃ m : Nat, (i = 0 ∧ m = 333 ∨ i = 1 ∧ m = 334) ∧ y = .int (m : Int) := by
        have hi : i < 2 := (List.getElem?_eq_some_iff.mp hy).1
        rcases (by omega : i = 0 ∨ i = 1) with rfl | rfl
        · cases hy
          exact ⟨333, .inl ⟨rfl, rfl⟩, rfl⟩
        · cases hy
          exact ⟨334, .inr ⟨rfl, rfl⟩, rfl⟩
      have sI : Same H' H' := fun b o h => h
      wtm_at "rd"
      intro l0 fl0
      have kl0 := Same.new (o := .lst [.str "b", .str "a", .str "c"]) fl0
      have hl0 := @upd_same H' l0 (.lst [.str "b", .str "a", .str "c"])
      have sI := sI.trans kl0
      generalize upd H' l0 (.lst [.str "b", .str "a", .str "c"]) = H1 at hl0 sI
      clear kl0 fl0
      wtm_at "rd"
      refine rd_repL (m := m) hl0 (by omega) (by simp) ?_
      intro l1 fl1
      have kl1 := Same.new (o := .lst (List.replicate m ([.str "b", .str "a", .str "c"] : List V)).flatten) fl1
      have hl1 := @upd_same H1 l1 (.lst (List.replicate m ([.str "b", .str "a", .str "c"] : List V)).flatten)
      have sI := sI.trans kl1
      generalize upd H1 l1 (.lst (List.replicate m ([.str "b", .str "a", .str "c"] : List V)).flatten) = H2 at hl1 sI
      clear kl1 fl1
      wtm_at "rd"
      intro l2 fl2
      have kl2 := Same.new (o := .lst [.str "b"]) fl2
      have hl2 := @upd_same H2 l2 (.lst [.str "b"])
      have hl1 := kl2 _ _ hl1
      have sI := sI.trans kl2
      generalize upd H2 l2 (.lst [.str "b"]) = H3 at hl2 hl1 sI
      clear kl2 fl2
      wtm_at "rd"
      refine rd_catL hl1 hl2 (by rw [List.length_flatten, List.map_replicate, List.sum_replicate_nat]; show m * 3 + 1 ≤ 100000; omega) ?_
      rw [rep_bac]
      intro pa fpa
      have kpa := Same.new (o := .lst ((bac m).map V.str)) fpa
      have hpa := @upd_same H3 pa (.lst ((bac m).map V.str))
      have sI := sI.trans kpa
      generalize upd H3 pa (.lst ((bac m).map V.str)) = H4 at hpa sI
      clear kpa fpa
      clear hl0 hl1 hl2
      wtm_at "rd"
      intro lo flo
      have klo := Same.new (o := .tup [.ref pa, .ref ce]) flo
      have hlo := @upd_same H4 lo (.tup [.ref pa, .ref ce])
      have hpa := klo _ _ hpa
      have sI := sI.trans klo
      generalize upd H4 lo (.tup [.ref pa, .ref ce]) = H5 at hlo hpa sI
      clear klo flo
      wtm_at "rd"
      intro lb flb
      have klb := Same.new (o := .lst [.str "b"]) flb
      have hlb := @upd_same H5 lb (.lst [.str "b"])
      have hpa := klb _ _ hpa
      have hlo := klb _ _ hlo
      have sI := sI.trans klb
      generalize upd H5 lb (.lst [.str "b"]) = H6 at hlb hpa hlo sI
      clear klb flb
      wtm_at "rd"
      intro hi2 fhi2
      have khi2 := Same.new (o := .tup [.ref lb, .ref ce]) fhi2
      have hhi2 := @upd_same H6 hi2 (.tup [.ref lb, .ref ce])
      have hpa := khi2 _ _ hpa
      have hlo := khi2 _ _ hlo
      have hlb := khi2 _ _ hlb
      have sI := sI.trans khi2
      generalize upd H6 hi2 (.tup [.ref lb, .ref ce]) = H7 at hhi2 hpa hlo hlb sI
      clear khi2 fhi2
      wtm_at "rd"
      intro le fle
      have kle := Same.new (o := .lst []) fle
      have hle := @upd_same H7 le (.lst [])
      have hpa := kle _ _ hpa
      have hlo := kle _ _ hlo
      have hlb := kle _ _ hlb
      have hhi2 := kle _ _ hhi2
      have sI := sI.trans kle
      generalize upd H7 le (.lst []) = H8 at hle hpa hlo hlb hhi2 sI
      clear kle fle
      wtm_at "rd"
      intro tr ftr
      have ktr := Same.new (o := .tup [.str "b", .ref lo, .ref hi2, .ref le]) ftr
      have htr := @upd_same H8 tr (.tup [.str "b", .ref lo, .ref hi2, .ref le])
      have hpa := ktr _ _ hpa
      have hlo := ktr _ _ hlo
      have hlb := ktr _ _ hlb
      have hhi2 := ktr _ _ hhi2
      have hle := ktr _ _ hle
      have sI := sI.trans ktr
      generalize upd H8 tr (.tup [.str "b", .ref lo, .ref hi2, .ref le]) = H9 at htr hpa hlo hlb hhi2 hle sI
      clear ktr ftr
      wtm_at "rd"
      refine rd_tyL (sI _ _ hrs) ?_
      wtm_at "rd"
      refine rd_disp54 ?_
      intro wd fwd
      have kwd := Same.new (o := .dK (kvF ["b"] fun _ => 0)) fwd
      have hwd := @upd_same H9 wd (.dK (kvF ["b"] fun _ => 0))
      have hpa := kwd _ _ hpa
      have hlo := kwd _ _ hlo
      have hlb := kwd _ _ hlb
      have hhi2 := kwd _ _ hhi2
      have hle := kwd _ _ hle
      have htr := kwd _ _ htr
      have sI := sI.trans kwd
      generalize upd H9 wd (.dK (kvF ["b"] fun _ => 0)) = H10 at hwd hpa hlo hlb hhi2 hle htr sI
      clear kwd fwd
      have s10 := s.trans sI
      have dce : Dp K H10 (.ref ce) (datC (some bC)) := .tup (SqT.of (s10 _ _ hce)) (.cons (.lst (SqL.of (s10 _ _ hc1)) (dpS ["b", "c", "a", "b"])) (.cons (.lst (SqL.of (s10 _ _ hc2)) (dpS ["b", "a", "c", "b"])) .nil))
      have dT : Dp K H10 (.ref tr) (datT (bTree m)) := by
        unfold bTree
        simp only [datT, datTs]
        exact .tup (SqT.of htr) (.cons (.str _) (.cons (.tup (SqT.of hlo) (.cons (.lst (SqL.of hpa) (dpS _)) (.cons dce .nil))) (.cons (.tup (SqT.of hhi2) (.cons (.lst (SqL.of hlb) (dpS ["b"])) (.cons dce .nil))) (.cons (.lst (SqL.of hle) .nil) .nil))))
      wtm_at "rd"
      refine ⟨g, n, e, st, wd, ti, .ref tr, triN, triN, ["b"], [], es, triF 0 1 2, fun _ => 0, rfl, gs.same s10, C.si _, hwd, by decide, by decide, fun x hx => by rw [List.mem_singleton.mp hx]; exact ⟨List.mem_cons_of_mem _ List.mem_cons_self, by decide, by decide⟩, .inl ⟨bTree m, dT, by simp [bTree, BrT.ok, BrT.oks], by simp [bTree, BrT.dp, BrT.dps], by decide, fun b H11 s11 hb => ?_⟩⟩
      rw [hes, bTree_br] at hb
      have eb : b = decide (m ≤ 333) := by
        cases b with
        | false => exact (decide_eq_false fun z => nomatch hb.mpr z).symm
        | true => exact (decide_eq_true (hb.mp rfl)).symm
      have sJ := sI.trans s11
      wtm_at "rd"
      refine rd_append (sJ _ _ hrs) (by rw [List.length_take]; exact Nat.lt_of_le_of_lt (Nat.min_le_right _ _) (by decide)) ?_
      wtm_at "rd"
      refine ⟨_, _, _, rfl, same_put (s.trans sJ) frs, at_upd nlr (sJ _ _ hl), ?_⟩
      rw [upd_same, eb]
      rcases hm with ⟨rfl, rfl⟩ | ⟨rfl, rfl⟩ <;> rfl
    · rintro σ H' ⟨u4, u5, u6, rfl, s, _, hrs⟩
      wtm_at "rd"
      intro ex fex
      have kex := Same.new (o := .lst [.bl true, .bl false]) fex
      have hex := @upd_same H' ex (.lst [.bl true, .bl false])
      have hrs := kex _ _ hrs
      have s := s.trans kex
      generalize upd H' ex (.lst [.bl true, .bl false]) = H1 at hex hrs s
      clear kex fex
      refine rd_eqTF hrs hex ?_
      exact q H1 (sm.trans s)
end
end Law

/-! signatures decide what is reached: the plain law -/
namespace U
open PySem PySem.Spec PyProof.Rows L2
section
variable {ns : List Str} {es : List (Str × Str)} {f g h : Str → Int} {pn : List Str} {dir : Int}
end
end U

/-! xs += ys, lists -/
namespace U
open PySem PySem.Spec PyProof.Rows L2
section
variable {M : Model} {A : Around} {E : Value → Shared → Prop} {s : Shared}
end
end U


/-! signature -/
namespace Law
open PySem PySem.Spec PyProof.Rows L2 U LamX


section
variable {P : Program} {w : World} {K : PySem.W.Frag} {mg : Str → Option Value} {base : Heap}
end
end Law


/-! signatures and lifts; small readings -/
namespace Law
open PySem PySem.Spec PyProof.Rows L2 U LamX
def qLam : Str := ("smallest_path" : Str) ++ ".<locals>." ++ "<lambda>"
end Law


/-! moves compared -/
namespace Law
open PySem PySem.Spec PyProof.Rows L2 U


section
variable {K : PySem.W.Frag} {H : Hp} {Q : VK} {p q : Addr} {σ : L2.St}
end
end Law


/-! k54's law -/
namespace Law
open PySem PySem.Spec PyProof.Rows L2 U LamX


def spLaw (K : PySem.W.Frag) (T : Addr) : Sp := fun vs H Q _ => ∃ (a : Addr) (nums : List Int), vs = [.ref a] ∧ SqL K H a (nums.map V.int) ∧ nums.length ≤ 63 ∧ Tabs [(T, qLam)] H ∧ ∀ H' : Hp, Q (.bl true) H'
/-- the things whose repr is taken -/
structure Rep54 (H : Hp) (st wd : Addr) (v : V) (ord ws : List Str) (f w : Str → Int) (d : PyData) : Prop where
  st : H st = some (.dK (kvF ord f))
  wd : H wd = some (.dK (kvF ws w))
  dg : Dg H v d
theorem Rep54.same {H H' : Hp} {st wd : Addr} {v : V} {ord ws : List Str} {f w : Str → Int} {d : PyData} (h : Rep54 H st wd v ord ws f w d) (s : Same H H') : Rep54 H' st wd v ord ws f w d := ⟨s _ _ h.st, s _ _ h.wd, h.dg.ext fun b o h _ => s b o h⟩
def d54 (ord ws : List Str) (f w : Str → Int) (d : PyData) : PyData := .tuple [.dict (ord.map fun n => (.str n, vD (.int (f n)))), .dict (ws.map fun n => (.str n, vD (.int (w n)))), d]
theorem rd_rep54 {H : Hp} {Q : VK} {t st wd : Addr} {v : V} {ns ord ws : List Str} {f w : Str → Int} {d : PyData} {m : Nat} (h : Rep54 H st wd v ord ws f w d) (ht : H t = some (.tup [.ref st, .ref wd, v])) (nok : ∀ x ∈ ns, IsName x) (n6 : ns.length ≤ 6) (pm : ord.Perm ns) (t1 : ∀ x ∈ ns, 0 ≤ f x ∧ f x < 3) (wok : WOk ns ws w) (m3 : m ≤ 3) (sm : SmD (szB m) (2 * m + 12) d) (q : Q (.str (d54 ord ws f w d).shown) H) : rReprG [.ref t] H Q := by
  have at1 : ∀ n ∈ ord, IsName n ∧ AtmS (.int (f n)) := fun n hn => by
    have m := pm.mem_iff.mp hn
    have := t1 n m
    exact ⟨nok n m, .inr (.inr (.inl ⟨f n, rfl, by omega, by omega⟩))⟩
  have at2 : ∀ n ∈ ws, IsName n ∧ AtmS (.int (w n)) := fun n hn => by
    obtain ⟨m, a, b⟩ := wok.ok n hn
    exact ⟨nok n m, .inr (.inr (.inl ⟨w n, rfl, by omega, by omega⟩))⟩
  have l1 := pm.length_eq
  have l2 := wok.l3
  have w1 : Wz 240 1 (.dict (ord.map fun n => (.str n, vD (.int (f n))))) := (Wz.dct at1).mono (by omega) (Nat.le_refl _)
  have w2 : Wz 240 1 (.dict (ws.map fun n => (.str n, vD (.int (w n))))) := (Wz.dct at2).mono (by omega) (Nat.le_refl _)
  have bb := szB_3 m3
  exact rd_reprG ht (.cons (.dct (F := fun n => .int (f n)) h.st fun n hn => (at1 n hn).2.atm) (.cons (.dct (F := fun n => .int (w n)) h.wd fun n hn => (at2 n hn).2.atm) (.cons h.dg .nil))) ((Wz.tup (WzA.cons w1 (WzA.cons w2 (WzA.cons sm.wz WzA.nil)))).shows (by omega) (by omega)) q
section
variable {P : Program} {w : World} {K : PySem.W.Frag} {mg : Str → Option Value} {base : Heap}
structure N54c (P : Program) (w : World) (K : PySem.W.Frag) (mg : Str → Option Value) (base : Heap) (T : List (Addr × Str)) : Prop where
  _law_box : Cal P w K mg base CX0 1 "_law_box" (spBox K)
  _law_random_problem : Cal P w K mg base CX0 4 "_law_random_problem" spProblem
  _law_long_paths_hold : Cal P w K mg base CX0 15 "_law_long_paths_hold" spLg54
  _law_random_wanted : Cal P w K mg base CX0 2 "_law_random_wanted" spRW
  _law_random_branch : Cal P w K mg base CX0 12 "_law_random_branch" (spRBrU T)
  _law_is_branch : Cal P w K mg base CX0 10 "_law_is_branch" (spIsBrL K 4)
  is_refutation : CalK P w K mg base CX0 14 "is_refutation" 4 ["pinned"] (spIsRf K 4)
theorem ok_law {f : Addr} {fd : FuncData} {T : Addr} (F : Fun K "law" "law" s_law f fd) (B : Bt mg) (C : N54c P w K mg base [(T, qLam)]) : FnG P w K mg base CX0 16 f fd ["_law_script"] (spLaw K T) := by
  refine fnG0 F sc_law (fun vs H Q E h => ?_) (fun cdv A outer s H vs Q E hr h => ?_)
  · obtain ⟨a, nums, rfl, _⟩ := h
    rfl
  · obtain ⟨a, nums, rfl, hs, hl, tabs, q⟩ := h
    have nd := sc_law.nd
    have hu := hr.u1
    refine ⟨_, (pss_cons (ps_set (i := 1) nd rfl (by first | exact Or.inl rfl | exact Or.inr rfl) (pe_c C._law_box hr (by decide) rfl (pa_cons (pv 0) pa_nil)))
  (pss_cons (ps_asg (pe_c C._law_random_problem hr (by decide) rfl (pa_cons (pv 1) (pa_cons pe_int pa_nil))) (kg_tup (n := 3) K rfl rfl (pgs_cons (pg_name (i := 2) nd rfl (by first | exact Or.inl rfl | exact Or.inr rfl)) (pgs_cons (pg_name (i := 3) nd rfl (by first | exact Or.inl rfl | exact Or.inr rfl)) (pgs_cons (pg_name (i := 4) nd rfl (by first | exact Or.inl rfl | exact Or.inr rfl)) pgs_nil)))))
  (pss_cons (ps_if (PW.pt (pw_or (pt_cmpR (kEqNT K rfl hr.u0) (pe_ix (kIx K rfl) (pv 2) pe_int (fun _ _ => rfl)) (pe_tup pa_nil) (nomark _)) (pw_or1 (pt_not (pt_val (pe_cG0 C._law_long_paths_hold hr (by decide) rfl pass0)))))) (pss_one (ps_ret (pe_cG0 C._law_long_paths_hold hr (by decide) rfl pass0))) pss_nil)
  (pss_cons (ps_set (i := 5) nd rfl (by first | exact Or.inl rfl | exact Or.inr rfl) (pe_c C._law_random_wanted hr (by decide) rfl (pa_cons (pv 1) (pa_cons (pv 2) (pa_cons (pv 3) pa_nil)))))
  (pss_cons (ps_set (i := 6) nd rfl (by first | exact Or.inl rfl | exact Or.inr rfl) (pe_c C._law_random_branch hr (by decide) rfl (pa_cons (pv 1) (pa_cons (pv 2) (pa_cons (pv 3) (pa_cons (pv 5) (pa_cons pe_dnewK (pa_cons (pv 4) pa_nil))))))))
  (pss_cons (ps_set (i := 7) nd rfl (by first | exact Or.inl rfl | exact Or.inr rfl) (pe_callB (kReprG hr.g hr.u64) (by rfl) B.repr bb_repr (pa_cons (pe_tup (pa_cons (pv 3) (pa_cons (pv 5) (pa_cons (pv 6) pa_nil)))) pa_nil)))
  (pss_cons (ps_set (i := 8) nd rfl (by first | exact Or.inl rfl | exact Or.inr rfl) (pe_c C._law_is_branch hr (by decide) rfl (pa_cons (pv 2) (pa_cons (pv 3) (pa_cons (pv 5) (pa_cons (pv 6) (pa_cons pe_dnewK (pa_cons (pe_lst pa_nil) (pa_cons (pv 4) pa_nil)))))))))
  (pss_cons (ps_if (pt_cmpR (kNe K rfl hr.u64) (pe_callB (kReprV K rfl hr.g hr.u64) (by rfl) B.repr bb_repr (pa_cons (pe_cK C.is_refutation hr (by decide) rfl pass0 (pa_cons (pv 2) (pa_cons (pv 3) (pa_cons (pv 5) (pa_cons (pv 6) pa_nil)))) (pk_cons (pv 4) pk_nil)) pa_nil)) (pe_callB (kReprV K rfl hr.g hr.u64) (by rfl) B.repr bb_repr (pa_cons (pv 8) pa_nil)) (nomark _)) (pss_one (ps_ret pe_bl)) pss_nil)
  (pss_cons (ps_for PassesOwn.never rfl (ki_list K rfl (pe_lst (pa_cons pe_non (pa_cons pe_int (pa_cons (pe_lst pa_nil) (pa_cons (pe_tup pa_nil) (pa_cons pe_str (pa_cons (pe_tup (pa_cons pe_non (pa_cons pe_non (pa_cons pe_non (pa_cons (pe_lst pa_nil) pa_nil))))) (pa_cons (pe_tup (pa_cons (pe_lst pa_nil) (pa_cons pe_non (pa_cons pe_non (pa_cons (pe_lst pa_nil) pa_nil))))) (pa_cons (pv 5) (pa_cons (pe_lst (pa_cons (pv 6) pa_nil)) pa_nil))))))))))) (pg_name (i := 9) nd rfl (by first | exact Or.inl rfl | exact Or.inr rfl)) (pss_one (ps_if (pt_cmpR uIsNot (pe_cK C.is_refutation hr (by decide) rfl pass0 (pa_cons (pv 2) (pa_cons (pv 3) (pa_cons (pv 5) (pa_cons (pv 9) pa_nil)))) (pk_cons (pv 4) pk_nil)) pe_bl (nomark _)) (pss_one (ps_ret pe_bl)) pss_nil)))
  (pss_one (ps_ret (pe_cmpR (kEq K rfl hr.u64) (pe_callB (kReprG hr.g hr.u64) (by rfl) B.repr bb_repr (pa_cons (pe_tup (pa_cons (pv 3) (pa_cons (pv 5) (pa_cons (pv 6) pa_nil)))) pa_nil)) (pv 7) (nomark _))))))))))))), ?_⟩
    generalize [(T, qLam)] = TT at *
    wtm_at "rd"
    refine ⟨a, nums, rfl, hs, hl, fun p H1 s1 fp hp => ?_⟩
    have tb1 := tabs.ext fun b o h => s1 b o h
    wtm_at "rd"
    refine use_problem hp (by decide) (by decide) fun t g n e st ps ns ord pn es f H2 g2 _ _ _ _ ht gs hps pin pl0 asc n6 => ?_
    refine rd_unp (SqT.of ht) rfl ?_
    have n6 : ns.length ≤ 6 := by omega
    have x2 : GoC TT p H1 H2 := GoC.of_go tb1 hp g2
    clear ht g2 tb1 s1 tabs hs
    wtm_at "rd"
    refine rd_ixT (SqT.of gs.gr.top) (v := .ref n) rfl ?_
    wtm_at "rd"
    intro t0 ft0
    have kt0 := Same.new (o := .tup []) ft0
    have ht0 := @upd_same H2 t0 (.tup [])
    have hps := kt0 _ _ hps
    have gs := gs.same kt0
    have x2 := x2.same kt0
    generalize upd H2 t0 (.tup []) = H3 at ht0 hps gs x2
    clear kt0 ft0
    refine rd_eqNT (SqT.of gs.gr.nodes) (SqT.of ht0) ?_
    rw [show (ns.map V.str).isEmpty = ns.isEmpty from by cases ns <;> rfl]
    cases nse : ns.isEmpty with
    | true =>
      wtm_at "rd"
      exact ⟨rfl, fun H4 s4 => q _⟩
    | false =>
    have n1 : 1 ≤ ns.length := by
      cases ns with
      | nil => cases nse
      | cons x r => exact Nat.le_add_left 1 _
    wtm_at "rd"
    refine ⟨rfl, fun H4 s4 => ?_⟩
    have hps := s4 _ _ hps
    have gs := gs.same s4
    have x4 := x2.same s4
    clear nse ht0 x2 s4
    wtm_at "rd"
    refine ⟨p, g, n, e, st, ns, ord, es, f, rfl, x4.pool, gs, n1, fun wd ws w H5 g5 fwd hwd wok => ?_⟩
    have nwp : wd ≠ p := x4.pool.offN fwd
    have hps := g5.tup x4.pool hps
    have gs := gs.go x4.pool g5
    have tb5 := (GoN.of_go x4.tabs x4.pool g5).tabs
    have hp5 := g5.pool
    clear x4 g5 fwd hp
    wtm_at "rd"
    intro kd fkd
    have kk := Same.new (o := .dK []) fkd
    have hkd := @upd_same H5 kd (.dK [])
    have hps := kk _ _ hps
    have hwd := kk _ _ hwd
    have gs := gs.same kk
    have x6 : GoC TT p H5 (upd H5 kd (.dK [])) := GoC.of_same tb5 hp5 kk
    generalize upd H5 kd (.dK []) = H6 at *
    clear kk fkd hp5 tb5
    wtm_at "rd"
    have wl := wok.l3
    refine ⟨ws.length, wl, p, g, n, e, st, wd, kd, ps, ns, ord, ws, [], pn, es, f, w, fun _ => 0, rfl, x6.pool, gs, hps, hwd, wok, hkd, (fun y h => nomatch h), List.nodup_nil, by rw [List.length_nil, Nat.zero_add], (fun y h => nomatch h), n6, x6.tabs, fun v Tr H7 x7 gen => ?_⟩
    have gs := gs.goN x6.pool x7.n
    have hps := sqT_gon (K := K) hps x6.pool x7.n
    have rp : Rep54 H7 st wd v ord ws f w (datT Tr) := ⟨gs.st, x7.n.dk x6.pool hwd, gen.dg.dg⟩
    obtain ⟨dg, tok, traw, tdp, sm⟩ := gen
    have nok := gs.ok.names.ok
    have tdp : Tr.dp ≤ 4 := by omega
    have wn : ∀ x ∈ ws, x ∈ ns := fun x h => (wok.ok x h).1
    clear x6 x7 hkd hwd
    wtm_at "rd"
    intro r1 fr1
    have kr1 := Same.new (o := .tup [.ref st, .ref wd, v]) fr1
    have hr1 := @upd_same H7 r1 (.tup [.ref st, .ref wd, v])
    have hps := kr1 _ _ hps
    have gs := gs.same kr1
    have rp := rp.same kr1
    have dg := dg.same kr1
    generalize upd H7 r1 (.tup [.ref st, .ref wd, v]) = H8 at hr1 hps gs rp dg
    clear kr1 fr1
    wtm_at "rd"
    refine rd_rep54 rp hr1 nok n6 gs.pm gs.tri wok wl sm ?_
    generalize hSS : (d54 ord ws f w (datT Tr)).shown = SS
    clear hr1
    wtm_at "rd"
    intro k0 fk0
    have kk0 := Same.new (o := .dK []) fk0
    have hk0 := @upd_same H8 k0 (.dK [])
    have hps := kk0 _ _ hps
    have gs := gs.same kk0
    have rp := rp.same kk0
    have dg := dg.same kk0
    generalize upd H8 k0 (.dK []) = H9 at hk0 hps gs rp dg
    clear kk0 fk0
    wtm_at "rd"
    intro f0 ff0
    have kf0 := Same.new (o := .lst []) ff0
    have hf0 := @upd_same H9 f0 (.lst [])
    have hps := kf0 _ _ hps
    have hk0 := kf0 _ _ hk0
    have gs := gs.same kf0
    have rp := rp.same kf0
    have dg := dg.same kf0
    generalize upd H9 f0 (.lst []) = HA at hf0 hps hk0 gs rp dg
    clear kf0 ff0
    wtm_at "rd"
    refine ⟨p, g, n, e, st, wd, k0, f0, ps, v, Tr, ns, ord, ws, pn, [], [], es, f, w, fun _ => 0, rfl, ⟨gs, rp.wd, hk0, hf0, SqT.of hps, Nat.zero_le _, Nat.zero_le _, (fun y h => nomatch h), (fun y h => nomatch h)⟩, by decide, by decide, dg, tok, traw, tdp, wn, fun b1 HB sB hb1 => ?_⟩
    have hps := sB _ _ hps
    have gs := gs.same sB
    have rp := rp.same sB
    have dg := dg.same sB
    clear sB hk0 hf0
    wtm_at "rd"
    refine ⟨g, n, e, st, wd, ps, v, ns, ord, ws, pn, es, f, w, rfl, gs, SqT.of hps, rp.wd, wok.l1, wl, wok.ok, .inl ⟨Tr, dg.dp, tok, tdp, by decide, fun b2 HC sC hb2 => ?_⟩⟩
    have hps := sC _ _ hps
    have gs := gs.same sC
    have rp := rp.same sC
    have dg := dg.same sC
    clear sC
    have eb : b2 = b1 := by
      rw [Bool.eq_iff_iff, hb2, hb1]
    subst eb
    wtm_at "rd"
    refine ⟨.bl b2, _, rfl, .bl b2, ?_⟩
    wtm_at "rd"
    refine ⟨.bl b2, _, rfl, .bl b2, ?_⟩
    wtm_at "rd"
    rw [decide_eq_true rfl]
    clear hb1 hb2
    wtm_at "rd"
    intro a1 fa1
    have ka1 := Same.new (o := .lst []) fa1
    have ha1 := @upd_same HC a1 (.lst [])
    have hps := ka1 _ _ hps
    have gs := gs.same ka1
    have rp := rp.same ka1
    have dg := dg.same ka1
    generalize upd HC a1 (.lst []) = J1 at ha1 hps gs rp dg
    clear ka1 fa1
    wtm_at "rd"
    intro a2 fa2
    have ka2 := Same.new (o := .tup []) fa2
    have ha2 := @upd_same J1 a2 (.tup [])
    have hps := ka2 _ _ hps
    have ha1 := ka2 _ _ ha1
    have gs := gs.same ka2
    have rp := rp.same ka2
    have dg := dg.same ka2
    generalize upd J1 a2 (.tup []) = J2 at ha2 hps ha1 gs rp dg
    clear ka2 fa2
    wtm_at "rd"
    intro l3 fl3
    have kl3 := Same.new (o := .lst []) fl3
    have hl3 := @upd_same J2 l3 (.lst [])
    have hps := kl3 _ _ hps
    have ha1 := kl3 _ _ ha1
    have ha2 := kl3 _ _ ha2
    have gs := gs.same kl3
    have rp := rp.same kl3
    have dg := dg.same kl3
    generalize upd J2 l3 (.lst []) = J3 at hl3 hps ha1 ha2 gs rp dg
    clear kl3 fl3
    wtm_at "rd"
    intro a3 fa3
    have ka3 := Same.new (o := .tup [.non, .non, .non, .ref l3]) fa3
    have ha3 := @upd_same J3 a3 (.tup [.non, .non, .non, .ref l3])
    have hps := ka3 _ _ hps
    have ha1 := ka3 _ _ ha1
    have ha2 := ka3 _ _ ha2
    have hl3 := ka3 _ _ hl3
    have gs := gs.same ka3
    have rp := rp.same ka3
    have dg := dg.same ka3
    generalize upd J3 a3 (.tup [.non, .non, .non, .ref l3]) = J4 at ha3 hps ha1 ha2 hl3 gs rp dg
    clear ka3 fa3
    wtm_at "rd"
    intro l4 fl4
    have kl4 := Same.new (o := .lst []) fl4
    have hl4 := @upd_same J4 l4 (.lst [])
    have hps := kl4 _ _ hps
    have ha1 := kl4 _ _ ha1
    have ha2 := kl4 _ _ ha2
    have hl3 := kl4 _ _ hl3
    have ha3 := kl4 _ _ ha3
    have gs := gs.same kl4
    have rp := rp.same kl4
    have dg := dg.same kl4
    generalize upd J4 l4 (.lst []) = J5 at hl4 hps ha1 ha2 hl3 ha3 gs rp dg
    clear kl4 fl4
    wtm_at "rd"
    intro l5 fl5
    have kl5 := Same.new (o := .lst []) fl5
    have hl5 := @upd_same J5 l5 (.lst [])
    have hps := kl5 _ _ hps
    have ha1 := kl5 _ _ ha1
    have ha2 := kl5 _ _ ha2
    have hl3 := kl5 _ _ hl3
    have ha3 := kl5 _ _ ha3
    have hl4 := kl5 _ _ hl4
    have gs := gs.same kl5
    have rp := rp.same kl5
    have dg := dg.same kl5
    generalize upd J5 l5 (.lst []) = J6 at hl5 hps ha1 ha2 hl3 ha3 hl4 gs rp dg
    clear kl5 fl5
    wtm_at "rd"
    intro a4 fa4
    have ka4 := Same.new (o := .tup [.ref l4, .non, .non, .ref l5]) fa4
    have ha4 := @upd_same J6 a4 (.tup [.ref l4, .non, .non, .ref l5])
    have hps := ka4 _ _ hps
    have ha1 := ka4 _ _ ha1
    have ha2 := ka4 _ _ ha2
    have hl3 := ka4 _ _ hl3
    have ha3 := ka4 _ _ ha3
    have hl4 := ka4 _ _ hl4
    have hl5 := ka4 _ _ hl5
    have gs := gs.same ka4
    have rp := rp.same ka4
    have dg := dg.same ka4
    generalize upd J6 a4 (.tup [.ref l4, .non, .non, .ref l5]) = J7 at ha4 hps ha1 ha2 hl3 ha3 hl4 hl5 gs rp dg
    clear ka4 fa4
    wtm_at "rd"
    intro a5 fa5
    have ka5 := Same.new (o := .lst [v]) fa5
    have ha5 := @upd_same J7 a5 (.lst [v])
    have hps := ka5 _ _ hps
    have ha1 := ka5 _ _ ha1
    have ha2 := ka5 _ _ ha2
    have hl3 := ka5 _ _ hl3
    have ha3 := ka5 _ _ ha3
    have hl4 := ka5 _ _ hl4
    have hl5 := ka5 _ _ hl5
    have ha4 := ka5 _ _ ha4
    have gs := gs.same ka5
    have rp := rp.same ka5
    have dg := dg.same ka5
    generalize upd J7 a5 (.lst [v]) = J8 at ha5 hps ha1 ha2 hl3 ha3 hl4 hl5 ha4 gs rp dg
    clear ka5 fa5
    wtm_at "rd"
    intro LW fLW
    have kLW := Same.new (o := .lst [.non, .int 3, .ref a1, .ref a2, .str "ab", .ref a3, .ref a4, .ref wd, .ref a5]) fLW
    have hLW := @upd_same J8 LW (.lst [.non, .int 3, .ref a1, .ref a2, .str "ab", .ref a3, .ref a4, .ref wd, .ref a5])
    have hps := kLW _ _ hps
    have ha1 := kLW _ _ ha1
    have ha2 := kLW _ _ ha2
    have hl3 := kLW _ _ hl3
    have ha3 := kLW _ _ ha3
    have hl4 := kLW _ _ hl4
    have hl5 := kLW _ _ hl5
    have ha4 := kLW _ _ ha4
    have ha5 := kLW _ _ ha5
    have gs := gs.same kLW
    have rp := rp.same kLW
    have dg := dg.same kLW
    generalize upd J8 LW (.lst [.non, .int 3, .ref a1, .ref a2, .str "ab", .ref a3, .ref a4, .ref wd, .ref a5]) = J9 at hLW hps ha1 ha2 hl3 ha3 hl4 hl5 ha4 ha5 gs rp dg
    clear kLW fLW
    have wr : ∀ y ∈ ([.non, .int 3, .ref a1, .ref a2, .str "ab", .ref a3, .ref a4, .ref wd, .ref a5] : List V), (∃ d, Dp K J9 y d ∧ OddB d) ∨ ∃ t, TyIs K J9 y t ∧ isT t .tup = false := fun y hy => by
      simp only [List.mem_cons, List.not_mem_nil, or_false] at hy
      rcases hy with rfl | rfl | rfl | rfl | rfl | rfl | rfl | rfl | rfl
      · exact .inr ⟨_, ty_non, rfl⟩
      · exact .inr ⟨_, ty_int, rfl⟩
      · exact .inr ⟨_, ty_lst ha1, rfl⟩
      · exact .inl ⟨.tuple [], .tup (SqT.of ha2) .nil, .inr (.inl ⟨[], rfl, by decide⟩)⟩
      · exact .inr ⟨_, ty_str, rfl⟩
      · exact .inl ⟨.tuple [.none, .none, .none, .list []], .tup (SqT.of ha3) (.cons .non (.cons .non (.cons .non (.cons (.lst (SqL.of hl3) .nil) .nil)))), .inr (.inr ⟨_, _, _, _, rfl, fun s z => nomatch z⟩)⟩
      · exact .inl ⟨.tuple [.list [], .none, .none, .list []], .tup (SqT.of ha4) (.cons (.lst (SqL.of hl4) .nil) (.cons .non (.cons .non (.cons (.lst (SqL.of hl5) .nil) .nil)))), .inr (.inr ⟨_, _, _, _, rfl, fun s z => nomatch z⟩)⟩
      · exact .inr ⟨_, ty_dK rp.wd, rfl⟩
      · exact .inr ⟨_, ty_lst ha5, rfl⟩
    generalize ([.non, .int 3, .ref a1, .ref a2, .str "ab", .ref a3, .ref a4, .ref wd, .ref a5] : List V) = LL at *
    refine rd_forL (SqL.of hLW) ?_
    refine turnsL (K := K) (xs := LL) (fun i σ H' => ∃ u9 : Option V, σ = [some (.ref a), some (.ref p), some (.ref g), some (.ref st), some (.ref ps), some (.ref wd), some v, some (.str SS), some (.bl b2), u9] ∧ Same J9 H') ⟨_, rfl, fun b o h => h⟩ ?_ ?_ ?_
    · rintro i σ H' hi ⟨u9, rfl, s⟩
      exact SqL.of (s _ _ hLW)
    · rintro i y σ H' hy ⟨u9, rfl, s⟩
      have rp := rp.same s
      wtm_at "rd"
      have go : ∀ (Q2 : VK), (∀ H2 : Hp, Same H' H2 → Q2 (.bl false) H2) → spIsRf K 4 [.ref g, .ref st, .ref wd, y, .ref ps] H' Q2 E0 := fun Q2 h2 => by
        refine ⟨g, n, e, st, wd, ps, y, ns, ord, ws, pn, es, f, w, rfl, gs.same s, SqT.of (s _ _ hps), rp.wd, wok.l1, wl, wok.ok, ?_⟩
        rcases wr y (List.mem_of_getElem? hy) with ⟨d, dy, od⟩ | ⟨t, ht, hf⟩
        · refine .inl ⟨.odd d, ?_, od, by simp [BrT.dp], by decide, fun b H2 s2 hb => ?_⟩
          · simp only [datT]
            exact Dp.same dy s
          · cases b with
            | false => exact h2 H2 s2
            | true => exact absurd (hb.mp rfl) brP_odd
        · exact .inr ⟨t, tyx_same ht s, hf, h2⟩
      refine go _ fun H2 s2 => ?_
      wtm_at "rd"
      rw [if_neg (by decide)]
      wtm_at "rd"
      exact ⟨_, rfl, s.trans s2⟩
    · rintro σ H' ⟨u9, rfl, s⟩
      have rp := rp.same s
      wtm_at "rd"
      intro r2 fr2
      have k2 := Same.new (o := .tup [.ref st, .ref wd, v]) fr2
      have hr2 := @upd_same H' r2 (.tup [.ref st, .ref wd, v])
      have rp := rp.same k2
      generalize upd H' r2 (.tup [.ref st, .ref wd, v]) = H2 at *
      wtm_at "rd"
      refine rd_rep54 rp hr2 nok n6 gs.pm gs.tri wok wl sm ?_
      rw [hSS]
      wtm_at "rd"
      rw [decide_eq_true rfl]
      exact q _
end
end Law

/-! the law's own head, one table of code objects tracked -/
namespace U
open PySem PySem.Spec PyProof.Rows L2 LamX
theorem law_GT {P : Program} {w : World} {K : PySem.W.Frag} {mg mb : Str → Option Value} {k : Nat} {fa a c T : Addr} {fd : FuncData} {x : Str} {sp : Sp} {s₁ : Shared} {vs : List Value} {ns : List Int}
    (KX : K.In s₁.heap) (hns : s₁.heap.Ns mainGlobals mg) (hb : s₁.heap.Ns builtinsNs mb) (hbb : ∀ x : Str, x ≠ "__name__" → mb x = bootBuiltins x) (hlim : s₁.heap.NoLimit) (hg : s₁.gens = #[])
    (hT : s₁.heap.get? T = some { cls := .none, data := .fields #[] }) (nT : K.lookup T = none) (CH : PySem.W.CodeHd s₁.heap c T)
    (hbm : ∃ (bm : Addr) (ob : Obj), mg "__builtins__" = some (.ref bm) ∧ bm ≠ builtinsNs ∧ s₁.heap.get? bm = some ob ∧ ob.cls = .type "module" ∧ ob.dict = some builtinsNs ∧ ob.data = .plain)
    (ha : s₁.heap.get? a = some { cls := .type "list", data := .seq vs.toArray }) (hi : IntsAre vs ns) (hl : ns.length ≤ sizeLine) (hr : Room k callerA)
    (F : ∀ base : Heap, K.In base → base.Ns mainGlobals mg → TabB base mg c T → FnG P w K mg base CX0 k fa fd [x] sp) (hbind : ∀ (s : Shared) (u : Value), BindsTo s fd ⟨[u], []⟩ [(x, u)])
    (hsp : ∀ H : Hp, H T = some (.tbl #[]) → SqL K H a (ns.map V.int) → sp [.ref a] H (fun v _ => v = .bl true) fun _ _ _ => False) :
    codeAny (model P w) callerA (.call (.ref fa) ⟨[.ref a], []⟩) (fun r s' => r = .ok (.ret (.bool true)) ∧ OldK s₁.heap s'.heap ∧ s'.os = s₁.os ∧ AllBare s'.gens) s₁ := by
  have rv := vals_ints hi
  have lenV := hi.length
  have aT : a ≠ T := fun z => by
    rw [z, hT] at ha
    have := congrArg Obj.data (Option.some.inj ha)
    cases this
  have main : ∀ H : Hp, H T = some (.tbl #[]) → (∀ b, H b = none ∨ b = T ∨ ∃ o xs, H b = some (.frz o (.lst xs))) → SqL K H a (ns.map V.int) → HOk P w H s₁.heap → (∀ b, H b ≠ none → b = a ∨ b = T) → (H a ≠ none → K.lookup a = none) →
      codeAny (model P w) callerA (.call (.ref fa) ⟨[.ref a], []⟩) (fun r s' => r = .ok (.ret (.bool true)) ∧ OldK s₁.heap s'.heap ∧ s'.os = s₁.os ∧ AllBare s'.gens) s₁ := by
    intro H hH only seq ok two own
    have unseen : ∀ {b : Addr} {o : Obj}, s₁.heap.get? b = some o → (∀ vs n, o.data ≠ .seq vs n) → o.data ≠ .fields #[] → H b = none := by
      intro b o e d1 d2
      cases q : H b with
      | none => rfl
      | some u =>
        rcases two b (by rw [q]; simp) with rfl | rfl
        · obtain rfl := Option.some.inj (ha.symm.trans e)
          exact (d1 _ _ rfl).elim
        · obtain rfl := Option.some.inj (hT.symm.trans e)
          exact (d2 rfl).elim
    have stays : ∀ {b : Addr} {m : Str → Option Value}, s₁.heap.Ns b m → (hidT s₁.heap H).Ns b m := by
      rintro b m ⟨o, es, ep, e, d, r⟩
      exact ⟨o, es, ep, hidT_get e (unseen e (fun _ _ z => by rw [d] at z; cases z) fun z => by rw [d] at z; cases z), d, r⟩
    have kin : K.In (hidT s₁.heap H) := by
      intro b o e
      refine hidT_get (KX b o e) ?_
      cases q : H b with
      | none => rfl
      | some u =>
        rcases two b (by rw [q]; simp) with rfl | rfl
        · rw [own (by rw [q]; simp)] at e
          cases e
        · rw [nT] at e
          cases e
    have md : Mod K mg (hidT s₁.heap H) := ⟨kin, stays hns, ⟨mb, stays hb, hbb⟩, by
      obtain ⟨mc, h1, h2⟩ := hlim
      exact ⟨mc, stays h1, h2⟩⟩
    have tab : TabB (hidT s₁.heap H) mg c T := by
      refine ⟨?_, ?_, fun z => ?_⟩
      · obtain ⟨o, us, file, tf, flags, tg, inF, text, tt, e1, r1, r2, r3, r4, r5, r6, r7, r8, r9⟩ := CH
        refine ⟨o, us, file, tf, flags, tg, inF, text, tt, hidT_get e1 (unseen e1 (fun _ _ z => by rw [r2] at z; cases z) fun z => ?_), r1, r2, r3, r4, r5, r6, r7, r8, r9⟩
        rw [r2] at z
        obtain rfl := Data.fields.inj z
        simp at r3
      · obtain ⟨bm, ob, b1, b2, b3, b4, b5, b6⟩ := hbm
        refine ⟨bm, ob, b1, b2, fun z => ?_, fun z => ?_, hidT_get b3 (unseen b3 (fun _ _ z => by rw [b6] at z; cases z) fun z => by rw [b6] at z; cases z), b4, b5, b6⟩
        · obtain ⟨o, es, ep, e, hd, _⟩ := hns
          rw [z, e] at b3
          obtain rfl := Option.some.inj b3
          rw [hd] at b6
          cases b6
        · rw [z, hT] at b3
          obtain rfl := Option.some.inj b3
          cases b6
      · obtain ⟨o, es, ep, e, hd, _⟩ := hns
        rw [z, hT] at e
        obtain rfl := Option.some.inj e
        cases hd
    have e0 : Env0 P w K mg (hidT s₁.heap H) callerA [] s₁ H := ⟨rfl, md, fun b o e => of_hidT e, Nat.le_of_eq (hidT_size _ _), trivial, fun b z => (List.not_mem_nil z).elim, ok, .of_eq hg⟩
    refine codeAny_mono ((F _ kin (stays hns) tab).go callerA [] s₁ H ⟨[.ref a], []⟩ [.ref a] [.ref a] _ _ ⟨hr, rfl⟩ e0 (hbind s₁ (.ref a)) (.cons rfl .nil) (hsp H hH seq)) ?_
    intro r s' h
    cases r with
    | error e => exact h.elim
    | ok fl =>
      cases fl with
      | next => exact h.elim
      | brk => exact h.elim
      | cont => exact h.elim
      | ret u =>
        obtain ⟨v, H', os, bare, un, ok', r', q⟩ := h
        have q' : v = .bl true := q
        subst q'
        obtain rfl : u = Value.bool true := r'
        have key : ∀ b o, b ≠ T → s₁.heap.get? b = some o → s'.heap.get? b = some o := by
          intro b o nb e
          cases q : H b with
          | none => exact un.keep b o e q (fun z => (List.not_mem_nil z).elim) (fun z => (List.not_mem_nil z).elim)
          | some u =>
            rcases only b with z | z | ⟨ob, xs, z⟩
            · rw [q] at z; cases z
            · exact (nb z).elim
            · obtain ⟨e1, _⟩ := ok b _ z
              obtain ⟨e2, _⟩ := ok' b _ (un.frzs b ob _ z)
              exact (Option.some.inj (e1.symm.trans e)) ▸ e2
        obtain ⟨more, z⟩ := un.tbls T #[] hH
        have grown := ok' T _ z
        refine ⟨rfl, ⟨fun b o e => ?_, fun b o e => ?_⟩, os, bare⟩
        · by_cases hb : b = T
          · subst hb
            obtain rfl := Option.some.inj (hT.symm.trans e)
            exact .inr (.inl ⟨(CH.tab hT).isCodeTable, rfl, #[], _, rfl, grown⟩)
          · exact .inl (key b o hb e)
        · by_cases hb : b = T
          · subst hb
            exact ⟨_, grown⟩
          · exact ⟨o, key b o hb e⟩
  cases hk : K.lookup a with
  | some o =>
    obtain rfl := Option.some.inj (ha.symm.trans (KX a o hk))
    refine main (fun b => if b = T then some (.tbl #[]) else none) (if_pos rfl) (fun b => ?_) (.inr ⟨_, vs.toArray, _, hk, rfl, rfl, rfl, ?_, by simpa using rv⟩) (fun b u z => ?_) (fun b z => ?_) fun z => (z (if_neg aT)).elim
    · by_cases e : b = T
      · exact .inr (.inl e)
      · exact .inl (if_neg e)
    · rw [List.size_toArray, lenV]
      exact hl
    · by_cases e : b = T
      · subst e
        obtain rfl := Option.some.inj ((if_pos rfl).symm.trans z)
        exact hT
      · exact nomatch (if_neg e).symm.trans z
    · by_cases e : b = T
      · exact .inr e
      · exact absurd (if_neg e) z
  | none =>
    refine main (fun b => if b = a then some (.frz { cls := .type "list", data := .seq vs.toArray } (.lst (ns.map V.int))) else if b = T then some (.tbl #[]) else none) ((if_neg aT.symm).trans (if_pos rfl)) (fun b => ?_) (.inl (.inr ⟨_, if_pos rfl⟩)) (fun b u z => ?_) (fun b z => ?_) fun _ => hk
    · by_cases hb : b = a
      · exact .inr (.inr ⟨_, _, if_pos hb⟩)
      · by_cases e : b = T
        · exact .inr (.inl e)
        · exact .inl ((if_neg hb).trans (if_neg e))
    · by_cases hb : b = a
      · subst hb
        obtain rfl := Option.some.inj ((if_pos rfl).symm.trans z)
        exact ⟨ha, by rw [List.length_map]; exact hl, vs, _, rv, ha⟩
      · by_cases e : b = T
        · subst e
          obtain rfl := Option.some.inj (((if_neg hb).trans (if_pos rfl)).symm.trans z)
          exact hT
        · exact nomatch ((if_neg hb).trans (if_neg e)).symm.trans z
    · by_cases hb : b = a
      · exact .inl hb
      · by_cases e : b = T
        · exact .inr e
        · exact absurd ((if_neg hb).trans (if_neg e)) z
/-- the same, the table told by the fragment -/
theorem walk_GY {l : PySem.W.OpenLaw} {n k : Nat} {q : Program} {loose : List Str} {XP : (Str → Option Value) → Heap → Prop} {YP : World → Heap → Prop} {d dy : DefRec} {K : Params → PySem.W.Frag} {sp : PySem.W.Frag → Addr → Sp} {x y : Str}
    (hn : l.most = some n) (hn2 : n ≤ sizeLine) (hdf : d.params.defaults = []) (hr : Room k callerA) (hrec : (recsOf q).find? (fun e => e.name == y) = some dy)
    (hY : ∀ (w : World) (h : Heap), YP w h → (K w.params).In h)
    (F : ∀ (w : World) (mg : Str → Option Value) (fa : Addr) (h : Heap), (K w.params).In h → h.Ns mainGlobals mg → mg d.name = some (.ref fa) →
      ∃ (fd : FuncData) (c T : Addr), PySem.W.tabIn (K w.params) y = some (c, T) ∧ (K w.params).lookup T = none ∧ (∀ (s : Shared) (u : Value), BindsTo s fd ⟨[u], []⟩ [(x, u)]) ∧
        ∀ base : Heap, (K w.params).In base → base.Ns mainGlobals mg → TabB base mg c T → FnG l.prog w (K w.params) mg base CX0 k fa fd [x] (sp (K w.params) T))
    (hsp : ∀ (K : PySem.W.Frag) (T : Addr) (H : Hp) (a : Addr) (ns : List Int), ns.length ≤ n → H T = some (.tbl #[]) → SqL K H a (ns.map V.int) → sp K T [.ref a] H (fun v _ => v = .bl true) fun _ _ _ => False) :
    PySem.W.WalkO q loose XP YP l.row.toRowW d [] (fun f vs => PySem.call f vs) := by
  refine Att.attach_callB hn hdf ?_
  intro w s₀ s₁ mg mb fa o pm cd doc a vs ns G Y ho hd hcd hmg hobj hints hlen bits hg
  obtain ⟨fd, c, T, hin, nT, hb, hF⟩ := F w mg fa _ (hY w _ Y) G.T.g hmg
  obtain ⟨CH, hT⟩ := PySem.W.tab_of G.T (hY w _ Y) hrec hin
  exact law_GT (hY w _ Y) G.T.g G.T.b G.T.builtins G.T.nolimit hg hT nT CH G.T.bmain hobj hints (Nat.le_trans hlen hn2) hr hF hb fun H h1 seq => hsp _ T H a ns hlen h1 seq
end U
namespace U
open PySem PySem.Spec PyProof.Rows L2
theorem tab_mk {K : PySem.W.Frag} {x : Str} {f c T : Addr} {oc oc2 : Value} {od od2 : Option Addr} {fd : FuncData} {sl sl2 : Array (Option Value)} {vs : Array Value} (h1 : PySem.W.nsIn K mainGlobals x = some (some (.ref f))) (h2 : K.lookup f = some ⟨oc, od, .func fd, sl⟩) (h3 : fd.code = .ref c)
    (h4 : K.lookup c = some ⟨oc2, od2, .fields vs, sl2⟩) (h5 : (vs[11]? : Option Value) = some (.ref T)) : PySem.W.tabIn K x = some (c, T) := by
  unfold PySem.W.tabIn
  rw [h1]
  simp only
  rw [h2]
  simp only
  rw [h3]
  simp only
  rw [h4]
  simp only
  rw [h5]
end U

end
namespace Law
open PySem PySem.Spec PyProof.Rows L2 U LamX
theorem all_mk {l : PySem.W.OpenLaw} {w : World} {K : PySem.W.Frag} {h : Heap} {mg : Str → Option Value} {fa : Addr} (X : K.In h) (G : h.Ns mainGlobals mg) (hfa : mg "law" = some (.ref fa))
    {od0 an0 : Option Addr} {sl0 : Array (Option Value)} {f0 : Addr} {oc0 kV0 dc0 pm0 cd0 ct0 : Value}
    {od1 an1 : Option Addr} {sl1 : Array (Option Value)} {f1 : Addr} {oc1 kV1 dc1 pm1 cd1 ct1 : Value}
    {od2 an2 : Option Addr} {sl2 : Array (Option Value)} {f2 : Addr} {oc2 kV2 dc2 pm2 cd2 ct2 : Value}
    {od3 an3 : Option Addr} {sl3 : Array (Option Value)} {f3 : Addr} {oc3 kV3 dc3 pm3 cd3 ct3 : Value}
    {od4 an4 : Option Addr} {sl4 : Array (Option Value)} {f4 : Addr} {oc4 kV4 dc4 pm4 cd4 ct4 : Value}
    {od5 an5 : Option Addr} {sl5 : Array (Option Value)} {f5 : Addr} {oc5 kV5 dc5 pm5 cd5 ct5 : Value}
    {od6 an6 : Option Addr} {sl6 : Array (Option Value)} {f6 : Addr} {oc6 kV6 dc6 pm6 cd6 ct6 : Value}
    {od7 an7 : Option Addr} {sl7 : Array (Option Value)} {f7 : Addr} {oc7 kV7 dc7 pm7 cd7 ct7 : Value}
    {od8 an8 : Option Addr} {sl8 : Array (Option Value)} {f8 : Addr} {oc8 kV8 dc8 pm8 cd8 ct8 : Value}
    {od9 an9 : Option Addr} {sl9 : Array (Option Value)} {f9 : Addr} {oc9 kV9 dc9 pm9 ct9 : Value} {C0 T0 : Addr} {ocC : Value} {odC : Option Addr} {vsC : Array Value} {slC : Array (Option Value)}
    {od10 an10 : Option Addr} {sl10 : Array (Option Value)} {f10 : Addr} {oc10 kV10 dc10 pm10 cd10 ct10 : Value}
    {od11 an11 : Option Addr} {sl11 : Array (Option Value)} {f11 : Addr} {oc11 kV11 dc11 pm11 cd11 ct11 : Value}
    {od12 an12 : Option Addr} {sl12 : Array (Option Value)} {f12 : Addr} {oc12 kV12 dc12 pm12 cd12 ct12 : Value}
    {od13 an13 : Option Addr} {sl13 : Array (Option Value)} {f13 : Addr} {oc13 kV13 dc13 pm13 cd13 ct13 : Value}
    {D14 T14 : Addr} {odT14 : Option Addr} {nT14 : Nat} {slT14 : Array (Option Value)}
    {od14 an14 : Option Addr} {sl14 : Array (Option Value)} {f14 : Addr} {oc14 dc14 pm14 cd14 ct14 : Value}
    {od15 an15 : Option Addr} {sl15 : Array (Option Value)} {f15 : Addr} {oc15 kV15 dc15 pm15 cd15 ct15 : Value}
    {D16 T16 : Addr} {odT16 : Option Addr} {nT16 : Nat} {slT16 : Array (Option Value)}
    {od16 an16 : Option Addr} {sl16 : Array (Option Value)} {f16 : Addr} {oc16 dc16 pm16 cd16 ct16 : Value}
    {od17 an17 : Option Addr} {sl17 : Array (Option Value)} {f17 : Addr} {oc17 kV17 dc17 pm17 cd17 ct17 : Value}
    {od18 an18 : Option Addr} {sl18 : Array (Option Value)} {f18 : Addr} {oc18 kV18 dc18 pm18 cd18 ct18 : Value}
    {od19 an19 : Option Addr} {sl19 : Array (Option Value)} {f19 : Addr} {oc19 kV19 dc19 pm19 cd19 ct19 : Value}
    {od20 an20 : Option Addr} {sl20 : Array (Option Value)} {f20 : Addr} {oc20 kV20 dc20 pm20 cd20 ct20 : Value}
    {od21 an21 : Option Addr} {sl21 : Array (Option Value)} {f21 : Addr} {oc21 kV21 dc21 pm21 cd21 ct21 : Value}
    {od22 an22 : Option Addr} {sl22 : Array (Option Value)} {f22 : Addr} {oc22 kV22 dc22 pm22 cd22 ct22 : Value}
    {od23 an23 : Option Addr} {sl23 : Array (Option Value)} {f23 : Addr} {oc23 kV23 dc23 pm23 cd23 ct23 : Value}
    {D24 T24 : Addr} {odT24 : Option Addr} {nT24 : Nat} {slT24 : Array (Option Value)}
    {od24 an24 : Option Addr} {sl24 : Array (Option Value)} {f24 : Addr} {oc24 dc24 pm24 cd24 ct24 : Value}
    {od25 an25 : Option Addr} {sl25 : Array (Option Value)} {f25 : Addr} {oc25 kV25 dc25 pm25 cd25 ct25 : Value}
    {od26 an26 : Option Addr} {sl26 : Array (Option Value)} {f26 : Addr} {oc26 kV26 dc26 pm26 cd26 ct26 : Value}
    {od27 an27 : Option Addr} {sl27 : Array (Option Value)} {f27 : Addr} {oc27 kV27 dc27 pm27 cd27 ct27 : Value}
    {od28 an28 : Option Addr} {sl28 : Array (Option Value)} {f28 : Addr} {oc28 kV28 dc28 pm28 cd28 ct28 : Value}
    {od29 an29 : Option Addr} {sl29 : Array (Option Value)} {f29 : Addr} {oc29 kV29 dc29 pm29 cd29 ct29 : Value}
    {od30 an30 : Option Addr} {sl30 : Array (Option Value)} {f30 : Addr} {oc30 kV30 dc30 pm30 cd30 ct30 : Value}
    {od31 an31 : Option Addr} {sl31 : Array (Option Value)} {f31 : Addr} {oc31 kV31 dc31 pm31 cd31 ct31 : Value}
    {od32 an32 : Option Addr} {sl32 : Array (Option Value)} {f32 : Addr} {oc32 kV32 dc32 pm32 cd32 ct32 : Value}
    {od33 an33 : Option Addr} {sl33 : Array (Option Value)} {f33 : Addr} {oc33 kV33 dc33 pm33 cd33 ct33 : Value}
    {od34 an34 : Option Addr} {sl34 : Array (Option Value)} {f34 : Addr} {oc34 kV34 dc34 pm34 cd34 ct34 : Value}
    {od35 an35 : Option Addr} {sl35 : Array (Option Value)} {f35 : Addr} {oc35 kV35 dc35 pm35 cd35 ct35 : Value}
    {od36 an36 : Option Addr} {sl36 : Array (Option Value)} {f36 : Addr} {oc36 kV36 dc36 pm36 cd36 ct36 : Value}
    {od37 an37 : Option Addr} {sl37 : Array (Option Value)} {f37 : Addr} {oc37 kV37 dc37 pm37 cd37 ct37 : Value}
    {od38 an38 : Option Addr} {sl38 : Array (Option Value)} {f38 : Addr} {oc38 kV38 dc38 pm38 cd38 ct38 : Value}
    {od39 an39 : Option Addr} {sl39 : Array (Option Value)} {f39 : Addr} {oc39 kV39 dc39 pm39 cd39 ct39 : Value}
    {od40 an40 : Option Addr} {sl40 : Array (Option Value)} {f40 : Addr} {oc40 kV40 dc40 pm40 cd40 ct40 : Value}
    {od41 an41 : Option Addr} {sl41 : Array (Option Value)} {f41 : Addr} {oc41 kV41 dc41 pm41 cd41 ct41 : Value}
    {od42 an42 : Option Addr} {sl42 : Array (Option Value)} {f42 : Addr} {oc42 kV42 dc42 pm42 cd42 ct42 : Value}
    {tk0 : Tok}
    {tk1 : Tok}
    {tk2 : Tok}
    {tk3 : Tok}
    {CB : Addr}
    {CE0 fE0 : Addr} {nmE0 qE0 : Str} {NE0 : Addr} {bsE0 : List Value} {snE0 : List Str} {subE0 : List Value} {abE0 : Bool} {colE0 : Option Bool} {ddE0 : Option Addr} {mA0 mB0 mC0 mD0 mE0 : Option Value} {odE0 anE0 : Option Addr} {slE0 : Array (Option Value)} {ocE0 kVE0 dcE0 pmE0 cdE0 ctE0 : Value}
    (a0 : PySem.W.nsIn K mainGlobals "has_node" = some (some (.ref f0))) (l0 : K.lookup f0 = some ⟨oc0, od0, .func (PySem.W.fnOf "has_node" "has_node" (defArgs s_has_node) (defBody s_has_node) (defScope s_has_node) .none kV0 dc0 pm0 an0 cd0 ct0), sl0⟩) (c0 : PySem.W.codeIn K cd0 "has_node" = true) (k0 : PySem.W.keepIn K (.ref f0) = true)
    (a1 : PySem.W.nsIn K mainGlobals "check_node" = some (some (.ref f1))) (l1 : K.lookup f1 = some ⟨oc1, od1, .func (PySem.W.fnOf "check_node" "check_node" (defArgs s_check_node) (defBody s_check_node) (defScope s_check_node) .none kV1 dc1 pm1 an1 cd1 ct1), sl1⟩) (c1 : PySem.W.codeIn K cd1 "check_node" = true) (k1 : PySem.W.keepIn K (.ref f1) = true)
    (a2 : PySem.W.nsIn K mainGlobals "edge_of" = some (some (.ref f2))) (l2 : K.lookup f2 = some ⟨oc2, od2, .func (PySem.W.fnOf "edge_of" "edge_of" (defArgs s_edge_of) (defBody s_edge_of) (defScope s_edge_of) .none kV2 dc2 pm2 an2 cd2 ct2), sl2⟩) (c2 : PySem.W.codeIn K cd2 "edge_of" = true) (k2 : PySem.W.keepIn K (.ref f2) = true)
    (a3 : PySem.W.nsIn K mainGlobals "adjacency" = some (some (.ref f3))) (l3 : K.lookup f3 = some ⟨oc3, od3, .func (PySem.W.fnOf "adjacency" "adjacency" (defArgs s_adjacency) (defBody s_adjacency) (defScope s_adjacency) .none kV3 dc3 pm3 an3 cd3 ct3), sl3⟩) (c3 : PySem.W.codeIn K cd3 "adjacency" = true) (k3 : PySem.W.keepIn K (.ref f3) = true)
    (a4 : PySem.W.nsIn K mainGlobals "check_path" = some (some (.ref f4))) (l4 : K.lookup f4 = some ⟨oc4, od4, .func (PySem.W.fnOf "check_path" "check_path" (defArgs s_check_path) (defBody s_check_path) (defScope s_check_path) .none kV4 dc4 pm4 an4 cd4 ct4), sl4⟩) (c4 : PySem.W.codeIn K cd4 "check_path" = true) (k4 : PySem.W.keepIn K (.ref f4) = true)
    (a5 : PySem.W.nsIn K mainGlobals "is_path" = some (some (.ref f5))) (l5 : K.lookup f5 = some ⟨oc5, od5, .func (PySem.W.fnOf "is_path" "is_path" (defArgs s_is_path) (defBody s_is_path) (defScope s_is_path) .none kV5 dc5 pm5 an5 cd5 ct5), sl5⟩) (c5 : PySem.W.codeIn K cd5 "is_path" = true) (k5 : PySem.W.keepIn K (.ref f5) = true)
    (a6 : PySem.W.nsIn K mainGlobals "paths_from" = some (some (.ref f6))) (l6 : K.lookup f6 = some ⟨oc6, od6, .func (PySem.W.fnOf "paths_from" "paths_from" (defArgs s_paths_from) (defBody s_paths_from) (defScope s_paths_from) .none kV6 dc6 pm6 an6 cd6 ct6), sl6⟩) (c6 : PySem.W.codeIn K cd6 "paths_from" = true) (k6 : PySem.W.keepIn K (.ref f6) = true)
    (a7 : PySem.W.nsIn K mainGlobals "slope" = some (some (.ref f7))) (l7 : K.lookup f7 = some ⟨oc7, od7, .func (PySem.W.fnOf "slope" "slope" (defArgs s_slope) (defBody s_slope) (defScope s_slope) .none kV7 dc7 pm7 an7 cd7 ct7), sl7⟩) (c7 : PySem.W.codeIn K cd7 "slope" = true) (k7 : PySem.W.keepIn K (.ref f7) = true)
    (a8 : PySem.W.nsIn K mainGlobals "sloped_paths" = some (some (.ref f8))) (l8 : K.lookup f8 = some ⟨oc8, od8, .func (PySem.W.fnOf "sloped_paths" "sloped_paths" (defArgs s_sloped_paths) (defBody s_sloped_paths) (defScope s_sloped_paths) .none kV8 dc8 pm8 an8 cd8 ct8), sl8⟩) (c8 : PySem.W.codeIn K cd8 "sloped_paths" = true) (k8 : PySem.W.keepIn K (.ref f8) = true)
    (a9 : PySem.W.nsIn K mainGlobals "smallest_path" = some (some (.ref f9))) (l9 : K.lookup f9 = some ⟨oc9, od9, .func (PySem.W.fnOf "smallest_path" "smallest_path" (defArgs s_smallest_path) (defBody s_smallest_path) (defScope s_smallest_path) .none kV9 dc9 pm9 an9 (.ref C0) ct9), sl9⟩) (c9 : PySem.W.codeIn K (.ref C0) "smallest_path" = true) (k9 : PySem.W.keepIn K (.ref f9) = true) (tl0 : K.lookup C0 = some ⟨ocC, odC, .fields vsC, slC⟩) (tl1 : (vsC[11]? : Option Value) = some (.ref T0)) (ty1 : K.lookup T0 = none)
    (a10 : PySem.W.nsIn K mainGlobals "cycle_at" = some (some (.ref f10))) (l10 : K.lookup f10 = some ⟨oc10, od10, .func (PySem.W.fnOf "cycle_at" "cycle_at" (defArgs s_cycle_at) (defBody s_cycle_at) (defScope s_cycle_at) .none kV10 dc10 pm10 an10 cd10 ct10), sl10⟩) (c10 : PySem.W.codeIn K cd10 "cycle_at" = true) (k10 : PySem.W.keepIn K (.ref f10) = true)
    (a11 : PySem.W.nsIn K mainGlobals "cycle_nodes" = some (some (.ref f11))) (l11 : K.lookup f11 = some ⟨oc11, od11, .func (PySem.W.fnOf "cycle_nodes" "cycle_nodes" (defArgs s_cycle_nodes) (defBody s_cycle_nodes) (defScope s_cycle_nodes) .none kV11 dc11 pm11 an11 cd11 ct11), sl11⟩) (c11 : PySem.W.codeIn K cd11 "cycle_nodes" = true) (k11 : PySem.W.keepIn K (.ref f11) = true)
    (a12 : PySem.W.nsIn K mainGlobals "find_anchors" = some (some (.ref f12))) (l12 : K.lookup f12 = some ⟨oc12, od12, .func (PySem.W.fnOf "find_anchors" "find_anchors" (defArgs s_find_anchors) (defBody s_find_anchors) (defScope s_find_anchors) .none kV12 dc12 pm12 an12 cd12 ct12), sl12⟩) (c12 : PySem.W.codeIn K cd12 "find_anchors" = true) (k12 : PySem.W.keepIn K (.ref f12) = true)
    (a13 : PySem.W.nsIn K mainGlobals "is_certificate_path" = some (some (.ref f13))) (l13 : K.lookup f13 = some ⟨oc13, od13, .func (PySem.W.fnOf "is_certificate_path" "is_certificate_path" (defArgs s_is_certificate_path) (defBody s_is_certificate_path) (defScope s_is_certificate_path) .none kV13 dc13 pm13 an13 cd13 ct13), sl13⟩) (c13 : PySem.W.codeIn K cd13 "is_certificate_path" = true) (k13 : PySem.W.keepIn K (.ref f13) = true)
    (a14 : PySem.W.nsIn K mainGlobals "is_frozen_certificate" = some (some (.ref f14))) (l14 : K.lookup f14 = some ⟨oc14, od14, .func (PySem.W.fnOf "is_frozen_certificate" "is_frozen_certificate" (defArgs s_is_frozen_certificate) (defBody s_is_frozen_certificate) (defScope s_is_frozen_certificate) .none (.ref D14) dc14 pm14 an14 cd14 ct14), sl14⟩) (c14 : PySem.W.codeIn K cd14 "is_frozen_certificate" = true) (k14 : PySem.W.keepIn K (.ref f14) = true)
    (d14 : PySem.W.nsIn K D14 "pinned" = some (some (.ref T14))) (t14 : K.lookup T14 = some ⟨.type "tuple", odT14, .seq #[] nT14, slT14⟩)
    (a15 : PySem.W.nsIn K mainGlobals "path_to_anchor" = some (some (.ref f15))) (l15 : K.lookup f15 = some ⟨oc15, od15, .func (PySem.W.fnOf "path_to_anchor" "path_to_anchor" (defArgs s_path_to_anchor) (defBody s_path_to_anchor) (defScope s_path_to_anchor) .none kV15 dc15 pm15 an15 cd15 ct15), sl15⟩) (c15 : PySem.W.codeIn K cd15 "path_to_anchor" = true) (k15 : PySem.W.keepIn K (.ref f15) = true)
    (a16 : PySem.W.nsIn K mainGlobals "frozen_certificate" = some (some (.ref f16))) (l16 : K.lookup f16 = some ⟨oc16, od16, .func (PySem.W.fnOf "frozen_certificate" "frozen_certificate" (defArgs s_frozen_certificate) (defBody s_frozen_certificate) (defScope s_frozen_certificate) .none (.ref D16) dc16 pm16 an16 cd16 ct16), sl16⟩) (c16 : PySem.W.codeIn K cd16 "frozen_certificate" = true) (k16 : PySem.W.keepIn K (.ref f16) = true)
    (d16 : PySem.W.nsIn K D16 "pinned" = some (some (.ref T16))) (t16 : K.lookup T16 = some ⟨.type "tuple", odT16, .seq #[] nT16, slT16⟩)
    (a17 : PySem.W.nsIn K mainGlobals "is_integer" = some (some (.ref f17))) (l17 : K.lookup f17 = some ⟨oc17, od17, .func (PySem.W.fnOf "is_integer" "is_integer" (defArgs s_is_integer) (defBody s_is_integer) (defScope s_is_integer) .none kV17 dc17 pm17 an17 cd17 ct17), sl17⟩) (c17 : PySem.W.codeIn K cd17 "is_integer" = true) (k17 : PySem.W.keepIn K (.ref f17) = true)
    (a18 : PySem.W.nsIn K mainGlobals "is_value" = some (some (.ref f18))) (l18 : K.lookup f18 = some ⟨oc18, od18, .func (PySem.W.fnOf "is_value" "is_value" (defArgs s_is_value) (defBody s_is_value) (defScope s_is_value) .none kV18 dc18 pm18 an18 cd18 ct18), sl18⟩) (c18 : PySem.W.codeIn K cd18 "is_value" = true) (k18 : PySem.W.keepIn K (.ref f18) = true)
    (a19 : PySem.W.nsIn K mainGlobals "check_wanted" = some (some (.ref f19))) (l19 : K.lookup f19 = some ⟨oc19, od19, .func (PySem.W.fnOf "check_wanted" "check_wanted" (defArgs s_check_wanted) (defBody s_check_wanted) (defScope s_check_wanted) .none kV19 dc19 pm19 an19 cd19 ct19), sl19⟩) (c19 : PySem.W.codeIn K cd19 "check_wanted" = true) (k19 : PySem.W.keepIn K (.ref f19) = true)
    (a20 : PySem.W.nsIn K mainGlobals "numbers_between" = some (some (.ref f20))) (l20 : K.lookup f20 = some ⟨oc20, od20, .func (PySem.W.fnOf "numbers_between" "numbers_between" (defArgs s_numbers_between) (defBody s_numbers_between) (defScope s_numbers_between) .none kV20 dc20 pm20 an20 cd20 ct20), sl20⟩) (c20 : PySem.W.codeIn K cd20 "numbers_between" = true) (k20 : PySem.W.keepIn K (.ref f20) = true)
    (a21 : PySem.W.nsIn K mainGlobals "checked_bound" = some (some (.ref f21))) (l21 : K.lookup f21 = some ⟨oc21, od21, .func (PySem.W.fnOf "checked_bound" "checked_bound" (defArgs s_checked_bound) (defBody s_checked_bound) (defScope s_checked_bound) .none kV21 dc21 pm21 an21 cd21 ct21), sl21⟩) (c21 : PySem.W.codeIn K cd21 "checked_bound" = true) (k21 : PySem.W.keepIn K (.ref f21) = true)
    (a22 : PySem.W.nsIn K mainGlobals "required_numbers" = some (some (.ref f22))) (l22 : K.lookup f22 = some ⟨oc22, od22, .func (PySem.W.fnOf "required_numbers" "required_numbers" (defArgs s_required_numbers) (defBody s_required_numbers) (defScope s_required_numbers) .none kV22 dc22 pm22 an22 cd22 ct22), sl22⟩) (c22 : PySem.W.codeIn K cd22 "required_numbers" = true) (k22 : PySem.W.keepIn K (.ref f22) = true)
    (a23 : PySem.W.nsIn K mainGlobals "is_branch" = some (some (.ref f23))) (l23 : K.lookup f23 = some ⟨oc23, od23, .func (PySem.W.fnOf "is_branch" "is_branch" (defArgs s_is_branch) (defBody s_is_branch) (defScope s_is_branch) .none kV23 dc23 pm23 an23 cd23 ct23), sl23⟩) (c23 : PySem.W.codeIn K cd23 "is_branch" = true) (k23 : PySem.W.keepIn K (.ref f23) = true)
    (a24 : PySem.W.nsIn K mainGlobals "is_refutation" = some (some (.ref f24))) (l24 : K.lookup f24 = some ⟨oc24, od24, .func (PySem.W.fnOf "is_refutation" "is_refutation" (defArgs s_is_refutation) (defBody s_is_refutation) (defScope s_is_refutation) .none (.ref D24) dc24 pm24 an24 cd24 ct24), sl24⟩) (c24 : PySem.W.codeIn K cd24 "is_refutation" = true) (k24 : PySem.W.keepIn K (.ref f24) = true)
    (d24 : PySem.W.nsIn K D24 "pinned" = some (some (.ref T24))) (t24 : K.lookup T24 = some ⟨.type "tuple", odT24, .seq #[] nT24, slT24⟩)
    (a25 : PySem.W.nsIn K mainGlobals "_law_box" = some (some (.ref f25))) (l25 : K.lookup f25 = some ⟨oc25, od25, .func (PySem.W.fnOf "_law_box" "_law_box" (defArgs s__law_box) (defBody s__law_box) (defScope s__law_box) .none kV25 dc25 pm25 an25 cd25 ct25), sl25⟩) (c25 : PySem.W.codeIn K cd25 "_law_box" = true) (k25 : PySem.W.keepIn K (.ref f25) = true)
    (a26 : PySem.W.nsIn K mainGlobals "_law_draw" = some (some (.ref f26))) (l26 : K.lookup f26 = some ⟨oc26, od26, .func (PySem.W.fnOf "_law_draw" "_law_draw" (defArgs s__law_draw) (defBody s__law_draw) (defScope s__law_draw) .none kV26 dc26 pm26 an26 cd26 ct26), sl26⟩) (c26 : PySem.W.codeIn K cd26 "_law_draw" = true) (k26 : PySem.W.keepIn K (.ref f26) = true)
    (a27 : PySem.W.nsIn K mainGlobals "_law_stem" = some (some (.ref f27))) (l27 : K.lookup f27 = some ⟨oc27, od27, .func (PySem.W.fnOf "_law_stem" "_law_stem" (defArgs s__law_stem) (defBody s__law_stem) (defScope s__law_stem) .none kV27 dc27 pm27 an27 cd27 ct27), sl27⟩) (c27 : PySem.W.codeIn K cd27 "_law_stem" = true) (k27 : PySem.W.keepIn K (.ref f27) = true)
    (a28 : PySem.W.nsIn K mainGlobals "_law_random_names" = some (some (.ref f28))) (l28 : K.lookup f28 = some ⟨oc28, od28, .func (PySem.W.fnOf "_law_random_names" "_law_random_names" (defArgs s__law_random_names) (defBody s__law_random_names) (defScope s__law_random_names) .none kV28 dc28 pm28 an28 cd28 ct28), sl28⟩) (c28 : PySem.W.codeIn K cd28 "_law_random_names" = true) (k28 : PySem.W.keepIn K (.ref f28) = true)
    (a29 : PySem.W.nsIn K mainGlobals "_law_random_problem" = some (some (.ref f29))) (l29 : K.lookup f29 = some ⟨oc29, od29, .func (PySem.W.fnOf "_law_random_problem" "_law_random_problem" (defArgs s__law_random_problem) (defBody s__law_random_problem) (defScope s__law_random_problem) .none kV29 dc29 pm29 an29 cd29 ct29), sl29⟩) (c29 : PySem.W.codeIn K cd29 "_law_random_problem" = true) (k29 : PySem.W.keepIn K (.ref f29) = true)
    (a30 : PySem.W.nsIn K mainGlobals "_law_random_wanted" = some (some (.ref f30))) (l30 : K.lookup f30 = some ⟨oc30, od30, .func (PySem.W.fnOf "_law_random_wanted" "_law_random_wanted" (defArgs s__law_random_wanted) (defBody s__law_random_wanted) (defScope s__law_random_wanted) .none kV30 dc30 pm30 an30 cd30 ct30), sl30⟩) (c30 : PySem.W.codeIn K cd30 "_law_random_wanted" = true) (k30 : PySem.W.keepIn K (.ref f30) = true)
    (a31 : PySem.W.nsIn K mainGlobals "_law_slope_of" = some (some (.ref f31))) (l31 : K.lookup f31 = some ⟨oc31, od31, .func (PySem.W.fnOf "_law_slope_of" "_law_slope_of" (defArgs s__law_slope_of) (defBody s__law_slope_of) (defScope s__law_slope_of) .none kV31 dc31 pm31 an31 cd31 ct31), sl31⟩) (c31 : PySem.W.codeIn K cd31 "_law_slope_of" = true) (k31 : PySem.W.keepIn K (.ref f31) = true)
    (a32 : PySem.W.nsIn K mainGlobals "_law_is_path" = some (some (.ref f32))) (l32 : K.lookup f32 = some ⟨oc32, od32, .func (PySem.W.fnOf "_law_is_path" "_law_is_path" (defArgs s__law_is_path) (defBody s__law_is_path) (defScope s__law_is_path) .none kV32 dc32 pm32 an32 cd32 ct32), sl32⟩) (c32 : PySem.W.codeIn K cd32 "_law_is_path" = true) (k32 : PySem.W.keepIn K (.ref f32) = true)
    (a33 : PySem.W.nsIn K mainGlobals "_law_steps" = some (some (.ref f33))) (l33 : K.lookup f33 = some ⟨oc33, od33, .func (PySem.W.fnOf "_law_steps" "_law_steps" (defArgs s__law_steps) (defBody s__law_steps) (defScope s__law_steps) .none kV33 dc33 pm33 an33 cd33 ct33), sl33⟩) (c33 : PySem.W.codeIn K cd33 "_law_steps" = true) (k33 : PySem.W.keepIn K (.ref f33) = true)
    (a34 : PySem.W.nsIn K mainGlobals "_law_is_certificate_path" = some (some (.ref f34))) (l34 : K.lookup f34 = some ⟨oc34, od34, .func (PySem.W.fnOf "_law_is_certificate_path" "_law_is_certificate_path" (defArgs s__law_is_certificate_path) (defBody s__law_is_certificate_path) (defScope s__law_is_certificate_path) .none kV34 dc34 pm34 an34 cd34 ct34), sl34⟩) (c34 : PySem.W.codeIn K cd34 "_law_is_certificate_path" = true) (k34 : PySem.W.keepIn K (.ref f34) = true)
    (a35 : PySem.W.nsIn K mainGlobals "_law_is_frozen_here" = some (some (.ref f35))) (l35 : K.lookup f35 = some ⟨oc35, od35, .func (PySem.W.fnOf "_law_is_frozen_here" "_law_is_frozen_here" (defArgs s__law_is_frozen_here) (defBody s__law_is_frozen_here) (defScope s__law_is_frozen_here) .none kV35 dc35 pm35 an35 cd35 ct35), sl35⟩) (c35 : PySem.W.codeIn K cd35 "_law_is_frozen_here" = true) (k35 : PySem.W.keepIn K (.ref f35) = true)
    (a36 : PySem.W.nsIn K mainGlobals "_law_component_of" = some (some (.ref f36))) (l36 : K.lookup f36 = some ⟨oc36, od36, .func (PySem.W.fnOf "_law_component_of" "_law_component_of" (defArgs s__law_component_of) (defBody s__law_component_of) (defScope s__law_component_of) .none kV36 dc36 pm36 an36 cd36 ct36), sl36⟩) (c36 : PySem.W.codeIn K cd36 "_law_component_of" = true) (k36 : PySem.W.keepIn K (.ref f36) = true)
    (a37 : PySem.W.nsIn K mainGlobals "_law_bound" = some (some (.ref f37))) (l37 : K.lookup f37 = some ⟨oc37, od37, .func (PySem.W.fnOf "_law_bound" "_law_bound" (defArgs s__law_bound) (defBody s__law_bound) (defScope s__law_bound) .none kV37 dc37 pm37 an37 cd37 ct37), sl37⟩) (c37 : PySem.W.codeIn K cd37 "_law_bound" = true) (k37 : PySem.W.keepIn K (.ref f37) = true)
    (a38 : PySem.W.nsIn K mainGlobals "_law_is_branch" = some (some (.ref f38))) (l38 : K.lookup f38 = some ⟨oc38, od38, .func (PySem.W.fnOf "_law_is_branch" "_law_is_branch" (defArgs s__law_is_branch) (defBody s__law_is_branch) (defScope s__law_is_branch) .none kV38 dc38 pm38 an38 cd38 ct38), sl38⟩) (c38 : PySem.W.codeIn K cd38 "_law_is_branch" = true) (k38 : PySem.W.keepIn K (.ref f38) = true)
    (a39 : PySem.W.nsIn K mainGlobals "_law_random_bound" = some (some (.ref f39))) (l39 : K.lookup f39 = some ⟨oc39, od39, .func (PySem.W.fnOf "_law_random_bound" "_law_random_bound" (defArgs s__law_random_bound) (defBody s__law_random_bound) (defScope s__law_random_bound) .none kV39 dc39 pm39 an39 cd39 ct39), sl39⟩) (c39 : PySem.W.codeIn K cd39 "_law_random_bound" = true) (k39 : PySem.W.keepIn K (.ref f39) = true)
    (a40 : PySem.W.nsIn K mainGlobals "_law_random_branch" = some (some (.ref f40))) (l40 : K.lookup f40 = some ⟨oc40, od40, .func (PySem.W.fnOf "_law_random_branch" "_law_random_branch" (defArgs s__law_random_branch) (defBody s__law_random_branch) (defScope s__law_random_branch) .none kV40 dc40 pm40 an40 cd40 ct40), sl40⟩) (c40 : PySem.W.codeIn K cd40 "_law_random_branch" = true) (k40 : PySem.W.keepIn K (.ref f40) = true)
    (a41 : PySem.W.nsIn K mainGlobals "_law_long_paths_hold" = some (some (.ref f41))) (l41 : K.lookup f41 = some ⟨oc41, od41, .func (PySem.W.fnOf "_law_long_paths_hold" "_law_long_paths_hold" (defArgs s__law_long_paths_hold) (defBody s__law_long_paths_hold) (defScope s__law_long_paths_hold) .none kV41 dc41 pm41 an41 cd41 ct41), sl41⟩) (c41 : PySem.W.codeIn K cd41 "_law_long_paths_hold" = true) (k41 : PySem.W.keepIn K (.ref f41) = true)
    (a42 : PySem.W.nsIn K mainGlobals "law" = some (some (.ref f42))) (l42 : K.lookup f42 = some ⟨oc42, od42, .func (PySem.W.fnOf "law" "law" (defArgs s_law) (defBody s_law) (defScope s_law) .none kV42 dc42 pm42 an42 cd42 ct42), sl42⟩) (c42 : PySem.W.codeIn K cd42 "law" = true) (k42 : PySem.W.keepIn K (.ref f42) = true)
    (z0 : PySem.W.nsIn K mainGlobals "len" = some none)
    (z1 : PySem.W.nsIn K mainGlobals "abs" = some none)
    (z2 : PySem.W.nsIn K mainGlobals "max" = some none)
    (z3 : PySem.W.nsIn K mainGlobals "min" = some none)
    (z4 : PySem.W.nsIn K mainGlobals "sorted" = some none)
    (z5 : PySem.W.nsIn K mainGlobals "isinstance" = some none)
    (z6 : PySem.W.nsIn K mainGlobals "int" = some none)
    (z7 : PySem.W.nsIn K mainGlobals "list" = some none)
    (z8 : PySem.W.nsIn K mainGlobals "tuple" = some none)
    (z9 : PySem.W.nsIn K mainGlobals "str" = some none)
    (z10 : PySem.W.nsIn K mainGlobals "range" = some none)
    (z11 : PySem.W.nsIn K mainGlobals "enumerate" = some none)
    (z12 : PySem.W.nsIn K mainGlobals "dict" = some none)
    (z13 : PySem.W.nsIn K mainGlobals "sum" = some none)
    (z14 : PySem.W.nsIn K mainGlobals "all" = some none)
    (z15 : PySem.W.nsIn K mainGlobals "any" = some none)
    (z16 : PySem.W.nsIn K mainGlobals "repr" = some none)
    (z17 : PySem.W.nsIn K mainGlobals "set" = some none)
    (z18 : PySem.W.nsIn K mainGlobals "zip" = some none)
    (z19 : PySem.W.nsIn K mainGlobals "reversed" = some none)
    (z20 : PySem.W.nsIn K mainGlobals "bool" = some none)
    (w0 : PySem.W.nsIn K mainGlobals "DOWN" = some (some (.int (-1) tk0)))
    (w1 : PySem.W.nsIn K mainGlobals "MAX_PATH" = some (some (.int 1000 tk1)))
    (w2 : PySem.W.nsIn K mainGlobals "MAX_WANTED" = some (some (.int 3 tk2)))
    (w3 : PySem.W.nsIn K mainGlobals "UP" = some (some (.int 1 tk3)))
    (y0 : PySem.W.nsIn K mainGlobals "InputError" = some (some (.ref CB))) (y1 : PySem.W.keepIn K (.ref CB) = true) (y2 : PySem.W.subIn K (.ref CB) (.type "BaseException") = some true) (y3 : PySem.W.typeIn K (.ref CB) = some (.type "type")) (y4 : PySem.W.isClsIn K CB = true)
    (y5 : PySem.W.specialIn K (.ref CB) "__getattribute__" = some (some (.builtin "type.__getattribute__"))) (y6 : PySem.W.readsIn K CB (.type "type") = true) (y7 : PySem.W.findCls K (.ref CB) (.type "type") "__init__" = some (.val (.builtin "ValueError.__init__")))
    (xa0 : PySem.W.nsIn K mainGlobals "InvalidPath" = some (some (.ref CE0))) (xb0 : K.lookup CE0 = some (excClassObj nmE0 qE0 CE0 NE0 bsE0 [.ref CB, .type "ValueError", .type "Exception", .type "BaseException", .type "object"] true snE0 subE0 abE0 colE0 ddE0 mA0 mB0 mC0 mD0 mE0 "ValueError.__new__")) (xc0 : PySem.W.findIn K (.ref CE0) "__setattr__" = some (some (.builtin "object.__setattr__"))) (xd0 : PySem.W.findIn K (.ref CE0) "__getattribute__" = some (some (.builtin "BaseException.__getattribute__"))) (xe0 : PySem.W.findIn K (.ref CE0) "__getattr__" = some none) (xf0 : PySem.W.findIn K (.ref CE0) "position" = some none) (xg0 : PySem.W.findIn K (.ref CE0) "__init__" = some (some (.ref fE0))) (xh0 : PySem.W.typeIn K (.ref fE0) = some (.type "function")) (xi0 : K.lookup fE0 = some ⟨ocE0, odE0, .func (PySem.W.fnOf "__init__" "InvalidPath.__init__" (defArgs s_InvalidPath_init) (defBody s_InvalidPath_init) (defScope s_InvalidPath_init) .none kVE0 dcE0 pmE0 anE0 cdE0 ctE0), slE0⟩) (xj0 : PySem.W.codeIn K cdE0 "InvalidPath.__init__" = true) (xk0 : PySem.W.keepIn K (.ref fE0) = true) (xl0 : PySem.W.keepIn K (.ref CE0) = true) (xm0 : PySem.W.subIn K (.ref CE0) (.type "BaseException") = some true) (xn0 : PySem.W.typeIn K (.ref CE0) = some (.type "type")) (xo0 : PySem.W.hasDictIn K CE0 = true) (xp0 : PySem.W.isClsIn K CE0 = true) (xq0 : PySem.W.subIn K (.ref CE0) (.ref CE0) = some true) (xr0 : PySem.W.subIn K (.ref CE0) (.ref CB) = some true) :
    ∃ (fd : FuncData) (c T : Addr), PySem.W.tabIn K "smallest_path" = some (c, T) ∧ K.lookup T = none ∧ (∀ (s : Shared) (u : Value), BindsTo s fd ⟨[u], []⟩ [("_law_script", u)]) ∧ ∀ base : Heap, K.In base → base.Ns mainGlobals mg → TabB base mg c T → FnG l.prog w K mg base CX0 16 fa fd ["_law_script"] (spLaw K T) := by
  have e := hfa.symm.trans (PySem.W.mg_of X G a42)
  cases e
  have n_len := PySem.W.mg_none_of X G z0
  have n_abs := PySem.W.mg_none_of X G z1
  have n_max := PySem.W.mg_none_of X G z2
  have n_min := PySem.W.mg_none_of X G z3
  have n_sorted := PySem.W.mg_none_of X G z4
  have n_isinstance := PySem.W.mg_none_of X G z5
  have n_int := PySem.W.mg_none_of X G z6
  have n_list := PySem.W.mg_none_of X G z7
  have n_tuple := PySem.W.mg_none_of X G z8
  have n_str := PySem.W.mg_none_of X G z9
  have n_range := PySem.W.mg_none_of X G z10
  have n_enumerate := PySem.W.mg_none_of X G z11
  have n_dict := PySem.W.mg_none_of X G z12
  have n_sum := PySem.W.mg_none_of X G z13
  have n_all := PySem.W.mg_none_of X G z14
  have n_any := PySem.W.mg_none_of X G z15
  have n_repr := PySem.W.mg_none_of X G z16
  have n_set := PySem.W.mg_none_of X G z17
  have n_zip := PySem.W.mg_none_of X G z18
  have n_reversed := PySem.W.mg_none_of X G z19
  have n_bool := PySem.W.mg_none_of X G z20
  have B : Bt mg := { len := n_len, abs := n_abs, max := n_max, min := n_min, sorted := n_sorted, isinstance := n_isinstance, int := n_int, list := n_list, tuple := n_tuple, str := n_str, range := n_range, enumerate := n_enumerate, dict := n_dict, sum := n_sum, all := n_all, any := n_any, repr := n_repr, set := n_set, zip := n_zip, reversed := n_reversed }
  have g_DOWN : ∃ u, mg "DOWN" = some u ∧ RelV (.int (-1)) u := ⟨_, PySem.W.mg_of X G w0, ⟨_, rfl⟩⟩
  have g_MAX_PATH : ∃ u, mg "MAX_PATH" = some u ∧ RelV (.int 1000) u := ⟨_, PySem.W.mg_of X G w1, ⟨_, rfl⟩⟩
  have g_MAX_WANTED : ∃ u, mg "MAX_WANTED" = some u ∧ RelV (.int 3) u := ⟨_, PySem.W.mg_of X G w2, ⟨_, rfl⟩⟩
  have g_UP : ∃ u, mg "UP" = some u ∧ RelV (.int 1) u := ⟨_, PySem.W.mg_of X G w3, ⟨_, rfl⟩⟩
  have F0 := fun_mk (st := s_has_node) l0 c0 k0
  have b0 := F0.binds (ps := ["graph", "candidate"]) fun _ _ _ _ _ _ us hl => match us, hl with | [_, _], _ => rfl
  have F1 := fun_mk (st := s_check_node) l1 c1 k1
  have b1 := F1.binds (ps := ["graph", "candidate"]) fun _ _ _ _ _ _ us hl => match us, hl with | [_, _], _ => rfl
  have F2 := fun_mk (st := s_edge_of) l2 c2 k2
  have b2 := F2.binds (ps := ["first", "second"]) fun _ _ _ _ _ _ us hl => match us, hl with | [_, _], _ => rfl
  have F3 := fun_mk (st := s_adjacency) l3 c3 k3
  have b3 := F3.binds (ps := ["graph"]) fun _ _ _ _ _ _ us hl => match us, hl with | [_], _ => rfl
  have F4 := fun_mk (st := s_check_path) l4 c4 k4
  have b4 := F4.binds (ps := ["graph", "candidate"]) fun _ _ _ _ _ _ us hl => match us, hl with | [_, _], _ => rfl
  have F5 := fun_mk (st := s_is_path) l5 c5 k5
  have b5 := F5.binds (ps := ["graph", "candidate"]) fun _ _ _ _ _ _ us hl => match us, hl with | [_, _], _ => rfl
  have F6 := fun_mk (st := s_paths_from) l6 c6 k6
  have b6 := F6.binds (ps := ["graph", "node"]) fun _ _ _ _ _ _ us hl => match us, hl with | [_, _], _ => rfl
  have F7 := fun_mk (st := s_slope) l7 c7 k7
  have b7 := F7.binds (ps := ["state", "node", "neighbor"]) fun _ _ _ _ _ _ us hl => match us, hl with | [_, _, _], _ => rfl
  have F8 := fun_mk (st := s_sloped_paths) l8 c8 k8
  have b8 := F8.binds (ps := ["graph", "state", "node", "direction"]) fun _ _ _ _ _ _ us hl => match us, hl with | [_, _, _, _], _ => rfl
  have F9 := fun_mk (st := s_smallest_path) l9 c9 k9
  have FC9 : FunC K "smallest_path" "smallest_path" s_smallest_path f9 _ C0 := ⟨⟨_, _, _, _, _, _, _, _, rfl, l9, c9⟩⟩
  have b9 := F9.binds (ps := ["paths"]) fun _ _ _ _ _ _ us hl => match us, hl with | [_], _ => rfl
  have F10 := fun_mk (st := s_cycle_at) l10 c10 k10
  have b10 := F10.binds (ps := ["graph", "state", "node"]) fun _ _ _ _ _ _ us hl => match us, hl with | [_, _, _], _ => rfl
  have F11 := fun_mk (st := s_cycle_nodes) l11 c11 k11
  have b11 := F11.binds (ps := ["graph", "state"]) fun _ _ _ _ _ _ us hl => match us, hl with | [_, _], _ => rfl
  have F12 := fun_mk (st := s_find_anchors) l12 c12 k12
  have b12 := F12.binds (ps := ["graph", "state", "pinned"]) fun _ _ _ _ _ _ us hl => match us, hl with | [_, _, _], _ => rfl
  have F13 := fun_mk (st := s_is_certificate_path) l13 c13 k13
  have b13 := F13.binds (ps := ["graph", "state", "candidate", "node", "direction", "pinned"]) fun _ _ _ _ _ _ us hl => match us, hl with | [_, _, _, _, _, _], _ => rfl
  have sT14 : ∀ H, SqT K H T14 [] := fun H => .inr ⟨_, _, _, t14, rfl, rfl, (by show 0 ≤ sizeLine; decide), .nil⟩
  have FD14 : FunD K "is_frozen_certificate" "is_frozen_certificate" (defArgs s_is_frozen_certificate) (defBody s_is_frozen_certificate) (defScope s_is_frozen_certificate) [] [("pinned", .ref T14)] f14 _ := ⟨⟨_, _, _, _, _, _, _, _, _, _, rfl, l14, c14, .inl ⟨rfl, rfl⟩, .inr ⟨D14, rfl, fun q hq => by
    rw [List.mem_singleton] at hq
    subst hq
    exact ⟨_, d14, rfl⟩⟩⟩, k14⟩
  obtain ⟨ds14, vd14, bd14⟩ := FD14.binds0 (ps := ["graph", "state", "node", "candidate", "pinned"]) 4 (by simp) rfl fun D doc pm an cdv ct us ks hu hk => match us, ks, hu, hk with | [_, _, _, _], [_], _, _ => ⟨_, _, _, _, _, _, rfl, rfl, rfl⟩
  have F14 := fun_mk (st := s_is_frozen_certificate) l14 c14 k14
  have F15 := fun_mk (st := s_path_to_anchor) l15 c15 k15
  have b15 := F15.binds (ps := ["graph", "state", "node", "direction", "anchors", "pinned"]) fun _ _ _ _ _ _ us hl => match us, hl with | [_, _, _, _, _, _], _ => rfl
  have sT16 : ∀ H, SqT K H T16 [] := fun H => .inr ⟨_, _, _, t16, rfl, rfl, (by show 0 ≤ sizeLine; decide), .nil⟩
  have FD16 : FunD K "frozen_certificate" "frozen_certificate" (defArgs s_frozen_certificate) (defBody s_frozen_certificate) (defScope s_frozen_certificate) [] [("pinned", .ref T16)] f16 _ := ⟨⟨_, _, _, _, _, _, _, _, _, _, rfl, l16, c16, .inl ⟨rfl, rfl⟩, .inr ⟨D16, rfl, fun q hq => by
    rw [List.mem_singleton] at hq
    subst hq
    exact ⟨_, d16, rfl⟩⟩⟩, k16⟩
  obtain ⟨ds16, vd16, bd16⟩ := FD16.binds0 (ps := ["graph", "state", "node", "pinned"]) 3 (by simp) rfl fun D doc pm an cdv ct us ks hu hk => match us, ks, hu, hk with | [_, _, _], [_], _, _ => ⟨_, _, _, _, _, _, rfl, rfl, rfl⟩
  have F16 := fun_mk (st := s_frozen_certificate) l16 c16 k16
  have F17 := fun_mk (st := s_is_integer) l17 c17 k17
  have b17 := F17.binds (ps := ["candidate"]) fun _ _ _ _ _ _ us hl => match us, hl with | [_], _ => rfl
  have F18 := fun_mk (st := s_is_value) l18 c18 k18
  have b18 := F18.binds (ps := ["candidate"]) fun _ _ _ _ _ _ us hl => match us, hl with | [_], _ => rfl
  have F19 := fun_mk (st := s_check_wanted) l19 c19 k19
  have b19 := F19.binds (ps := ["graph", "candidate"]) fun _ _ _ _ _ _ us hl => match us, hl with | [_, _], _ => rfl
  have F20 := fun_mk (st := s_numbers_between) l20 c20 k20
  have b20 := F20.binds (ps := ["state", "wanted", "node", "least", "greatest"]) fun _ _ _ _ _ _ us hl => match us, hl with | [_, _, _, _, _], _ => rfl
  have F21 := fun_mk (st := s_checked_bound) l21 c21 k21
  have b21 := F21.binds (ps := ["graph", "state", "candidate", "node", "known", "unbounded", "pinned", "direction"]) fun _ _ _ _ _ _ us hl => match us, hl with | [_, _, _, _, _, _, _, _], _ => rfl
  have F22 := fun_mk (st := s_required_numbers) l22 c22 k22
  have b22 := F22.binds (ps := ["graph", "state", "wanted", "candidate", "known", "unbounded", "pinned"]) fun _ _ _ _ _ _ us hl => match us, hl with | [_, _, _, _, _, _, _], _ => rfl
  have F23 := fun_mk (st := s_is_branch) l23 c23 k23
  have b23 := F23.binds (ps := ["graph", "state", "wanted", "candidate", "known", "unbounded", "pinned"]) fun _ _ _ _ _ _ us hl => match us, hl with | [_, _, _, _, _, _, _], _ => rfl
  have sT24 : ∀ H, SqT K H T24 [] := fun H => .inr ⟨_, _, _, t24, rfl, rfl, (by show 0 ≤ sizeLine; decide), .nil⟩
  have FD24 : FunD K "is_refutation" "is_refutation" (defArgs s_is_refutation) (defBody s_is_refutation) (defScope s_is_refutation) [] [("pinned", .ref T24)] f24 _ := ⟨⟨_, _, _, _, _, _, _, _, _, _, rfl, l24, c24, .inl ⟨rfl, rfl⟩, .inr ⟨D24, rfl, fun q hq => by
    rw [List.mem_singleton] at hq
    subst hq
    exact ⟨_, d24, rfl⟩⟩⟩, k24⟩
  obtain ⟨ds24, vd24, bd24⟩ := FD24.binds0 (ps := ["graph", "state", "wanted", "candidate", "pinned"]) 4 (by simp) rfl fun D doc pm an cdv ct us ks hu hk => match us, ks, hu, hk with | [_, _, _, _], [_], _, _ => ⟨_, _, _, _, _, _, rfl, rfl, rfl⟩
  have F24 := fun_mk (st := s_is_refutation) l24 c24 k24
  have F25 := fun_mk (st := s__law_box) l25 c25 k25
  have b25 := F25.binds (ps := ["_law_script"]) fun _ _ _ _ _ _ us hl => match us, hl with | [_], _ => rfl
  have F26 := fun_mk (st := s__law_draw) l26 c26 k26
  have b26 := F26.binds (ps := ["_law_source", "_law_count"]) fun _ _ _ _ _ _ us hl => match us, hl with | [_, _], _ => rfl
  have F27 := fun_mk (st := s__law_stem) l27 c27 k27
  have b27 := F27.binds (ps := ["_law_source"]) fun _ _ _ _ _ _ us hl => match us, hl with | [_], _ => rfl
  have F28 := fun_mk (st := s__law_random_names) l28 c28 k28
  have b28 := F28.binds (ps := ["_law_source", "_law_count"]) fun _ _ _ _ _ _ us hl => match us, hl with | [_, _], _ => rfl
  have F29 := fun_mk (st := s__law_random_problem) l29 c29 k29
  have b29 := F29.binds (ps := ["_law_source", "_law_most"]) fun _ _ _ _ _ _ us hl => match us, hl with | [_, _], _ => rfl
  have F30 := fun_mk (st := s__law_random_wanted) l30 c30 k30
  have b30 := F30.binds (ps := ["_law_source", "_law_graph", "_law_state"]) fun _ _ _ _ _ _ us hl => match us, hl with | [_, _, _], _ => rfl
  have F31 := fun_mk (st := s__law_slope_of) l31 c31 k31
  have b31 := F31.binds (ps := ["_law_state", "_law_one", "_law_other"]) fun _ _ _ _ _ _ us hl => match us, hl with | [_, _, _], _ => rfl
  have F32 := fun_mk (st := s__law_is_path) l32 c32 k32
  have b32 := F32.binds (ps := ["_law_graph", "_law_path"]) fun _ _ _ _ _ _ us hl => match us, hl with | [_, _], _ => rfl
  have F33 := fun_mk (st := s__law_steps) l33 c33 k33
  have b33 := F33.binds (ps := ["_law_state", "_law_path", "_law_direction"]) fun _ _ _ _ _ _ us hl => match us, hl with | [_, _, _], _ => rfl
  have F34 := fun_mk (st := s__law_is_certificate_path) l34 c34 k34
  have b34 := F34.binds (ps := ["_law_graph", "_law_state", "_law_path", "_law_node", "_law_direction", "_law_pins"]) fun _ _ _ _ _ _ us hl => match us, hl with | [_, _, _, _, _, _], _ => rfl
  have F35 := fun_mk (st := s__law_is_frozen_here) l35 c35 k35
  have b35 := F35.binds (ps := ["_law_graph", "_law_state", "_law_node", "_law_certificate", "_law_pins"]) fun _ _ _ _ _ _ us hl => match us, hl with | [_, _, _, _, _], _ => rfl
  have F36 := fun_mk (st := s__law_component_of) l36 c36 k36
  have b36 := F36.binds (ps := ["_law_graph", "_law_node"]) fun _ _ _ _ _ _ us hl => match us, hl with | [_, _], _ => rfl
  have F37 := fun_mk (st := s__law_bound) l37 c37 k37
  have b37 := F37.binds (ps := ["_law_graph", "_law_state", "_law_candidate", "_law_node", "_law_known", "_law_free", "_law_pins", "_law_direction"]) fun _ _ _ _ _ _ us hl => match us, hl with | [_, _, _, _, _, _, _, _], _ => rfl
  have F38 := fun_mk (st := s__law_is_branch) l38 c38 k38
  have b38 := F38.binds (ps := ["_law_graph", "_law_state", "_law_wanted", "_law_branch", "_law_known", "_law_free", "_law_pins"]) fun _ _ _ _ _ _ us hl => match us, hl with | [_, _, _, _, _, _, _], _ => rfl
  have F39 := fun_mk (st := s__law_random_bound) l39 c39 k39
  have b39 := F39.binds (ps := ["_law_source", "_law_graph", "_law_state", "_law_node", "_law_known", "_law_pins"]) fun _ _ _ _ _ _ us hl => match us, hl with | [_, _, _, _, _, _], _ => rfl
  have F40 := fun_mk (st := s__law_random_branch) l40 c40 k40
  have b40 := F40.binds (ps := ["_law_source", "_law_graph", "_law_state", "_law_wanted", "_law_known", "_law_pins"]) fun _ _ _ _ _ _ us hl => match us, hl with | [_, _, _, _, _, _], _ => rfl
  have F41 := fun_mk (st := s__law_long_paths_hold) l41 c41 k41
  have b41 := F41.binds (ps := []) fun _ _ _ _ _ _ us hl => match us, hl with | [], _ => rfl
  have F42 := fun_mk (st := s_law) l42 c42 k42
  have b42 := F42.binds (ps := ["_law_script"]) fun _ _ _ _ _ _ us hl => match us, hl with | [_], _ => rfl
  have own0 := own_mk (x := "InvalidPath") (f := "position") (PySem.W.mg_of X G xa0) (PySem.W.mg_of X G y0) xb0 xc0 xd0 xe0 xf0 xg0 xh0 xl0 xm0 xn0 xo0 xp0 xq0 y1 y2 y3 y4 xr0 y5 y6 y7
  have FE0 := fun_mk (st := s_InvalidPath_init) xi0 xj0 xk0
  have bE0 := FE0.binds (ps := ["self", "position"]) fun _ _ _ _ _ _ us hl => match us, hl with | [_, _], _ => rfl
  refine ⟨PySem.W.fnOf "law" "law" (defArgs s_law) (defBody s_law) (defScope s_law) .none kV42 dc42 pm42 an42 cd42 ct42, C0, T0, tab_mk a9 l9 rfl tl0 tl1, ty1, fun s v => .of_eq rfl, fun base _ _ TB => ?_⟩
  have err0 : ErrX l.prog w K mg base "InvalidPath" "position" CE0 CB := ⟨⟨_, _, own0, ok_initIPd2 FE0 own0, bE0⟩⟩
  have c_has_node : Cal l.prog w K mg base (CX0) 1 "has_node" (spHasV K) := ⟨⟨_, _, _, ok_hasV F0 B, PySem.W.mg_of X G a0, k0, b0⟩⟩
  have c_check_node : Cal l.prog w K mg base (CX0) 2 "check_node" (spChk0 K) := ⟨⟨_, _, _, ok_chk0 F1 B ⟨c_has_node⟩, PySem.W.mg_of X G a1, k1, b1⟩⟩
  have c_edge_of : Cal l.prog w K mg base (CX0) 1 "edge_of" (spEdgeOf) := ⟨⟨_, _, _, ok_edgeO F2 B, PySem.W.mg_of X G a2, k2, b2⟩⟩
  have c_adjacency : Cal l.prog w K mg base (CX0) 1 "adjacency" (spAdj) := ⟨⟨_, _, _, ok_adj F3 B, PySem.W.mg_of X G a3, k3, b3⟩⟩
  have c_check_path : Cal l.prog w K mg base (L2.CX l.prog w) 3 "check_path" (_) := ⟨⟨_, _, _, ok_ckPD F4 B ⟨c_has_node, c_edge_of, g_MAX_PATH⟩ err0, PySem.W.mg_of X G a4, k4, b4⟩⟩
  have c_is_path : Cal l.prog w K mg base (CX0) 4 "is_path" (spIsPD K) := ⟨⟨_, _, _, ok_isPD F5 B ⟨c_check_path⟩ own0, PySem.W.mg_of X G a5, k5, b5⟩⟩
  have c_paths_from : Cal l.prog w K mg base (CX0) 2 "paths_from" (spPathsFrom) := ⟨⟨_, _, _, ok_paths_from F6 B ⟨c_adjacency⟩, PySem.W.mg_of X G a6, k6, b6⟩⟩
  have c_slope : Cal l.prog w K mg base (CX0) 1 "slope" (spSlope) := ⟨⟨_, _, _, ok_slope F7 B ⟨g_UP, g_DOWN⟩, PySem.W.mg_of X G a7, k7, b7⟩⟩
  have c_sloped_paths : Cal l.prog w K mg base (CX0) 2 "sloped_paths" (spSloped) := ⟨⟨_, _, _, ok_sloped F8 B ⟨c_adjacency, c_slope⟩, PySem.W.mg_of X G a8, k8, b8⟩⟩
  have c_smallest_path : Cal l.prog w K mg base (CX0) 3 "smallest_path" (spSmall [(T0, qLam)]) := ⟨⟨_, _, _, ok_small FC9 n_min n_len TB (List.mem_singleton.mpr rfl) (fun y hy _ => by rw [List.mem_singleton.mp hy]; rfl), PySem.W.mg_of X G a9, k9, b9⟩⟩
  have c_cycle_at : Cal l.prog w K mg base (CX0) 4 "cycle_at" (spCycAt [(T0, qLam)]) := ⟨⟨_, _, _, ok_cycle_at F10 B ⟨c_adjacency, c_slope, c_sloped_paths, c_smallest_path, g_UP⟩, PySem.W.mg_of X G a10, k10, b10⟩⟩
  have c_cycle_nodes : Cal l.prog w K mg base (CX0) 5 "cycle_nodes" (spCycNodes [(T0, qLam)]) := ⟨⟨_, _, _, ok_cycle_nodes F11 B ⟨c_cycle_at⟩, PySem.W.mg_of X G a11, k11, b11⟩⟩
  have c_find_anchors : Cal l.prog w K mg base (CX0) 6 "find_anchors" (spFindAnchO K [(T0, qLam)]) := ⟨⟨_, _, _, ok_find_anchorsO F12 B ⟨c_cycle_nodes⟩, PySem.W.mg_of X G a12, k12, b12⟩⟩
  have c_is_certificate_path : Cal l.prog w K mg base (CX0) 5 "is_certificate_path" (spIsCpD K) := ⟨⟨_, _, _, ok_isCpD F13 B ⟨c_is_path, c_slope⟩, PySem.W.mg_of X G a13, k13, b13⟩⟩
  have c_is_frozen_certificate : CalK l.prog w K mg base (CX0) 6 "is_frozen_certificate" 4 ["pinned"] (spIsFcD K) := ⟨⟨_, _, ["graph", "state", "node", "candidate", "pinned"], ok_isFcD F14 B ⟨c_has_node, c_is_certificate_path, g_UP, g_DOWN⟩, PySem.W.mg_of X G a14, k14, fun us ws hu hw => match us, ws, hu, hw with | [_, _, _, _], [_], _, _ => rfl⟩⟩
  have e_is_frozen_certificate : CalD l.prog w K mg base (CX0) 6 "is_frozen_certificate" [.ref T14] (spIsFcD K) := ⟨⟨_, _, _, ds14, ok_isFcD F14 B ⟨c_has_node, c_is_certificate_path, g_UP, g_DOWN⟩, PySem.W.mg_of X G a14, k14, vd14, bd14⟩⟩
  have c_path_to_anchor : Cal l.prog w K mg base (CX0) 5 "path_to_anchor" (spPta K [(T0, qLam)]) := ⟨⟨_, _, _, ok_pta F15 B ⟨c_sloped_paths, c_smallest_path, c_cycle_at, g_UP⟩, PySem.W.mg_of X G a15, k15, b15⟩⟩
  have c_frozen_certificate : CalK l.prog w K mg base (CX0) 7 "frozen_certificate" 3 ["pinned"] (spFcer K [(T0, qLam)]) := ⟨⟨_, _, ["graph", "state", "node", "pinned"], ok_fcer F16 B ⟨c_check_node, c_find_anchors, c_path_to_anchor, g_UP, g_DOWN⟩, PySem.W.mg_of X G a16, k16, fun us ws hu hw => match us, ws, hu, hw with | [_, _, _], [_], _, _ => rfl⟩⟩
  have e_frozen_certificate : CalD l.prog w K mg base (CX0) 7 "frozen_certificate" [.ref T16] (spFcer K [(T0, qLam)]) := ⟨⟨_, _, _, ds16, ok_fcer F16 B ⟨c_check_node, c_find_anchors, c_path_to_anchor, g_UP, g_DOWN⟩, PySem.W.mg_of X G a16, k16, vd16, bd16⟩⟩
  have c_is_integer : Cal l.prog w K mg base (CX0) 1 "is_integer" (spIsInt K) := ⟨⟨_, _, _, ok_is_integer F17 B n_bool, PySem.W.mg_of X G a17, k17, b17⟩⟩
  have c_is_value : Cal l.prog w K mg base (CX0) 2 "is_value" (spIsVal) := ⟨⟨_, _, _, ok_is_value F18 B ⟨c_is_integer⟩, PySem.W.mg_of X G a18, k18, b18⟩⟩
  have c_check_wanted : Cal l.prog w K mg base (CX0) 3 "check_wanted" (spCkW) := ⟨⟨_, _, _, ok_ckW F19 B ⟨c_has_node, c_is_value, g_MAX_WANTED⟩, PySem.W.mg_of X G a19, k19, b19⟩⟩
  have c_numbers_between : Cal l.prog w K mg base (CX0) 1 "numbers_between" (spNumsB) := ⟨⟨_, _, _, ok_numsB F20 B, PySem.W.mg_of X G a20, k20, b20⟩⟩
  have c_checked_bound : Cal l.prog w K mg base (CX0) 7 "checked_bound" (spBndC K) := ⟨⟨_, _, _, ok_bndC F21 B ⟨c_is_path, c_slope, c_is_frozen_certificate, c_paths_from⟩, PySem.W.mg_of X G a21, k21, b21⟩⟩
  have c_required_numbers : Cal l.prog w K mg base (CX0) 8 "required_numbers" (spReqN K) := ⟨⟨_, _, _, ok_reqN F22 B ⟨c_paths_from, c_numbers_between, c_checked_bound, g_UP, g_DOWN⟩, PySem.W.mg_of X G a22, k22, b22⟩⟩
  have c_is_branch : Cal l.prog w K mg base (CX0) 13 "is_branch" (spIsBrU K) := ⟨⟨_, _, _, ok_isBrU F23 B ⟨c_has_node, c_required_numbers⟩ ⟨PySem.W.mg_of X G a23, k23, b23⟩, PySem.W.mg_of X G a23, k23, b23⟩⟩
  have c_is_refutation : CalK l.prog w K mg base (CX0) 14 "is_refutation" 4 ["pinned"] (spIsRf K 4) := ⟨⟨_, _, ["graph", "state", "wanted", "candidate", "pinned"], ok_isRf F24 B ⟨c_check_wanted⟩ c_is_branch, PySem.W.mg_of X G a24, k24, fun us ws hu hw => match us, ws, hu, hw with | [_, _, _, _], [_], _, _ => rfl⟩⟩
  have e_is_refutation : CalD l.prog w K mg base (CX0) 14 "is_refutation" [.ref T24] (spIsRf K 4) := ⟨⟨_, _, _, ds24, ok_isRf F24 B ⟨c_check_wanted⟩ c_is_branch, PySem.W.mg_of X G a24, k24, vd24, bd24⟩⟩
  have c__law_box : Cal l.prog w K mg base (CX0) 1 "_law_box" (spBox K) := ⟨⟨_, _, _, ok_box F25 B, PySem.W.mg_of X G a25, k25, b25⟩⟩
  have c__law_draw : Cal l.prog w K mg base (CX0) 1 "_law_draw" (spDraw) := ⟨⟨_, _, _, ok_draw F26 B, PySem.W.mg_of X G a26, k26, b26⟩⟩
  have c__law_stem : Cal l.prog w K mg base (CX0) 2 "_law_stem" (spStem) := ⟨⟨_, _, _, ok_stem F27 B ⟨c__law_draw⟩, PySem.W.mg_of X G a27, k27, b27⟩⟩
  have c__law_random_names : Cal l.prog w K mg base (CX0) 3 "_law_random_names" (spNamesB) := ⟨⟨_, _, _, ok_namesB F28 B ⟨c__law_draw, c__law_stem⟩, PySem.W.mg_of X G a28, k28, b28⟩⟩
  have c__law_random_problem : Cal l.prog w K mg base (CX0) 4 "_law_random_problem" (spProblem) := ⟨⟨_, _, _, ok_problem F29 B ⟨c__law_draw, c__law_random_names⟩, PySem.W.mg_of X G a29, k29, b29⟩⟩
  have c__law_random_wanted : Cal l.prog w K mg base (CX0) 2 "_law_random_wanted" (spRW) := ⟨⟨_, _, _, ok_rw F30 B ⟨c__law_draw⟩, PySem.W.mg_of X G a30, k30, b30⟩⟩
  have c__law_slope_of : Cal l.prog w K mg base (CX0) 1 "_law_slope_of" (spSlJ) := ⟨⟨_, _, _, ok_slJ F31 B, PySem.W.mg_of X G a31, k31, b31⟩⟩
  have c__law_is_path : Cal l.prog w K mg base (CX0) 1 "_law_is_path" (spPaJ) := ⟨⟨_, _, _, ok_paJ F32 B, PySem.W.mg_of X G a32, k32, b32⟩⟩
  have c__law_steps : Cal l.prog w K mg base (CX0) 2 "_law_steps" (spStp) := ⟨⟨_, _, _, ok_stp F33 B ⟨c__law_slope_of⟩, PySem.W.mg_of X G a33, k33, b33⟩⟩
  have c__law_is_certificate_path : Cal l.prog w K mg base (CX0) 3 "_law_is_certificate_path" (spCpJ K) := ⟨⟨_, _, _, ok_cp54 F34 B ⟨c__law_is_path, c__law_steps⟩, PySem.W.mg_of X G a34, k34, b34⟩⟩
  have c__law_is_frozen_here : Cal l.prog w K mg base (CX0) 4 "_law_is_frozen_here" (spFzJ K) := ⟨⟨_, _, _, ok_fzJ F35 B ⟨c__law_is_certificate_path⟩, PySem.W.mg_of X G a35, k35, b35⟩⟩
  have c__law_component_of : Cal l.prog w K mg base (CX0) 1 "_law_component_of" (spCmp54) := ⟨⟨_, _, _, ok_cmp54 F36 B, PySem.W.mg_of X G a36, k36, b36⟩⟩
  have c__law_bound : Cal l.prog w K mg base (CX0) 5 "_law_bound" (spBndL K) := ⟨⟨_, _, _, ok_bndL F37 B ⟨c__law_is_path, c__law_steps, c__law_is_frozen_here, c__law_component_of⟩, PySem.W.mg_of X G a37, k37, b37⟩⟩
  have c__law_is_branch : Cal l.prog w K mg base (CX0) 10 "_law_is_branch" (spIsBrL K 4) := ⟨⟨_, _, _, ok_isBrLU F38 B ⟨c__law_component_of, c__law_bound⟩ ⟨PySem.W.mg_of X G a38, k38, b38⟩, PySem.W.mg_of X G a38, k38, b38⟩⟩
  have c__law_random_bound : Cal l.prog w K mg base (CX0) 8 "_law_random_bound" (_) := ⟨⟨_, _, _, ok_rbd F39 B ⟨c__law_draw, c_frozen_certificate⟩, PySem.W.mg_of X G a39, k39, b39⟩⟩
  have c__law_random_branch : Cal l.prog w K mg base (CX0) 12 "_law_random_branch" (spRBrU [(T0, qLam)]) := ⟨⟨_, _, _, ok_rbrU F40 B ⟨c__law_draw, c__law_random_bound, c__law_bound⟩ ⟨PySem.W.mg_of X G a40, k40, b40⟩, PySem.W.mg_of X G a40, k40, b40⟩⟩
  have c__law_long_paths_hold : Cal l.prog w K mg base (CX0) 15 "_law_long_paths_hold" (spLg54) := ⟨⟨_, _, _, ok_lg54 F41 B ⟨e_is_refutation, sT24⟩, PySem.W.mg_of X G a41, k41, b41⟩⟩
  exact ok_law F42 B ⟨c__law_box, c__law_random_problem, c__law_long_paths_hold, c__law_random_wanted, c__law_random_branch, c__law_is_branch, c_is_refutation⟩
theorem walk {l : PySem.W.OpenLaw} {q : Program} {loose : List Str} {XP : (Str → Option Value) → Heap → Prop} {YP : World → Heap → Prop} {d dy : DefRec} {K : Params → PySem.W.Frag} (hn : l.most = some 63) (hdf : d.params.defaults = []) (hrec : (recsOf q).find? (fun e => e.name == ("smallest_path" : Str)) = some dy)
    (hY : ∀ (w : World) (h : Heap), YP w h → (K w.params).In h)
    (F : ∀ (w : World) (mg : Str → Option Value) (fa : Addr) (h : Heap), (K w.params).In h → h.Ns mainGlobals mg → mg d.name = some (.ref fa) →
      ∃ (fd : FuncData) (c T : Addr), PySem.W.tabIn (K w.params) "smallest_path" = some (c, T) ∧ (K w.params).lookup T = none ∧ (∀ (s : Shared) (u : Value), BindsTo s fd ⟨[u], []⟩ [("_law_script", u)]) ∧ ∀ base : Heap, (K w.params).In base → base.Ns mainGlobals mg → TabB base mg c T → FnG l.prog w (K w.params) mg base CX0 16 fa fd ["_law_script"] (spLaw (K w.params) T)) :
    PySem.W.WalkO q loose XP YP l.row.toRowW d [] (fun f vs => PySem.call f vs) :=
  walk_GY (n := 63) (k := 16) (x := "_law_script") (y := "smallest_path") (sp := spLaw) hn (by decide) hdf ⟨rfl, by decide, by decide⟩ hrec hY F fun K T H a ns hl hT hS => ⟨a, ns, rfl, hS, hl, (fun p hp => by
    rw [List.mem_singleton] at hp
    rw [hp]
    exact TabS.nil hT), fun _ => rfl⟩
end Law
open PySem PySem.W PyProof.Rows
set_option maxRecDepth 100000 in
set_option maxHeartbeats 0 in
theorem PySem.Challenge.cw_threeturned_k54_whole_refutations_checke_holds : PySem.Challenge.rw_threeturned_k54_whole_refutations_checke.Holds := by
  w_on; o_law; k_head; (case hw => w_witness2)
  k_fill
  refine Law.walk (l := PySem.Challenge.rw_threeturned_k54_whole_refutations_checke) rfl rfl rfl (fun w h Y => PySem.W.km_in_of Y) ?F
  case F =>
    intro w mg fa h KX G hmg
    refine' Law.all_mk KX G hmg ?a0 ?l0 ?c0 ?k0 ?a1 ?l1 ?c1 ?k1 ?a2 ?l2 ?c2 ?k2 ?a3 ?l3 ?c3 ?k3 ?a4 ?l4 ?c4 ?k4 ?a5 ?l5 ?c5 ?k5 ?a6 ?l6 ?c6 ?k6 ?a7 ?l7 ?c7 ?k7 ?a8 ?l8 ?c8 ?k8 ?a9 ?l9 ?c9 ?k9 ?tl0 ?tl1 ?ty1 ?a10 ?l10 ?c10 ?k10 ?a11 ?l11 ?c11 ?k11 ?a12 ?l12 ?c12 ?k12 ?a13 ?l13 ?c13 ?k13 ?a14 ?l14 ?c14 ?k14 ?d14 ?t14 ?a15 ?l15 ?c15 ?k15 ?a16 ?l16 ?c16 ?k16 ?d16 ?t16 ?a17 ?l17 ?c17 ?k17 ?a18 ?l18 ?c18 ?k18 ?a19 ?l19 ?c19 ?k19 ?a20 ?l20 ?c20 ?k20 ?a21 ?l21 ?c21 ?k21 ?a22 ?l22 ?c22 ?k22 ?a23 ?l23 ?c23 ?k23 ?a24 ?l24 ?c24 ?k24 ?d24 ?t24 ?a25 ?l25 ?c25 ?k25 ?a26 ?l26 ?c26 ?k26 ?a27 ?l27 ?c27 ?k27 ?a28 ?l28 ?c28 ?k28 ?a29 ?l29 ?c29 ?k29 ?a30 ?l30 ?c30 ?k30 ?a31 ?l31 ?c31 ?k31 ?a32 ?l32 ?c32 ?k32 ?a33 ?l33 ?c33 ?k33 ?a34 ?l34 ?c34 ?k34 ?a35 ?l35 ?c35 ?k35 ?a36 ?l36 ?c36 ?k36 ?a37 ?l37 ?c37 ?k37 ?a38 ?l38 ?c38 ?k38 ?a39 ?l39 ?c39 ?k39 ?a40 ?l40 ?c40 ?k40 ?a41 ?l41 ?c41 ?k41 ?a42 ?l42 ?c42 ?k42 ?z0 ?z1 ?z2 ?z3 ?z4 ?z5 ?z6 ?z7 ?z8 ?z9 ?z10 ?z11 ?z12 ?z13 ?z14 ?z15 ?z16 ?z17 ?z18 ?z19 ?z20 ?w0 ?w1 ?w2 ?w3 ?y0 ?y1 ?y2 ?y3 ?y4 ?y5 ?y6 ?y7 ?xa0 ?xb0 ?xc0 ?xd0 ?xe0 ?xf0 ?xg0 ?xh0 ?xi0 ?xj0 ?xk0 ?xl0 ?xm0 ?xn0 ?xo0 ?xp0 ?xq0 ?xr0
    (case a0 => k_is); (case l0 => k_is); (case c0 => k_is); (case k0 => k_is)
    (case a1 => k_is); (case l1 => k_is); (case c1 => k_is); (case k1 => k_is)
    (case a2 => k_is); (case l2 => k_is); (case c2 => k_is); (case k2 => k_is)
    (case a3 => k_is); (case l3 => k_is); (case c3 => k_is); (case k3 => k_is)
    (case a4 => k_is); (case l4 => k_is); (case c4 => k_is); (case k4 => k_is)
    (case a5 => k_is); (case l5 => k_is); (case c5 => k_is); (case k5 => k_is)
    (case a6 => k_is); (case l6 => k_is); (case c6 => k_is); (case k6 => k_is)
    (case a7 => k_is); (case l7 => k_is); (case c7 => k_is); (case k7 => k_is)
    (case a8 => k_is); (case l8 => k_is); (case c8 => k_is); (case k8 => k_is)
    (case a9 => k_is); (case l9 => k_is); (case c9 => k_is); (case k9 => k_is)
    (case tl0 => k_is); (case tl1 => exact rfl); (case ty1 => kernel_rfl); (case a10 => k_is)
    (case l10 => k_is); (case c10 => k_is); (case k10 => k_is); (case a11 => k_is)
    (case l11 => k_is); (case c11 => k_is); (case k11 => k_is); (case a12 => k_is)
    (case l12 => k_is); (case c12 => k_is); (case k12 => k_is); (case a13 => k_is)
    (case l13 => k_is); (case c13 => k_is); (case k13 => k_is); (case a14 => k_is)
    (case l14 => k_is); (case c14 => k_is); (case k14 => k_is); (case d14 => k_is)
    (case t14 => k_is); (case a15 => k_is); (case l15 => k_is); (case c15 => k_is)
    (case k15 => k_is); (case a16 => k_is); (case l16 => k_is); (case c16 => k_is)
    (case k16 => k_is); (case d16 => k_is); (case t16 => k_is); (case a17 => k_is)
    (case l17 => k_is); (case c17 => k_is); (case k17 => k_is); (case a18 => k_is)
    (case l18 => k_is); (case c18 => k_is); (case k18 => k_is); (case a19 => k_is)
    (case l19 => k_is); (case c19 => k_is); (case k19 => k_is); (case a20 => k_is)
    (case l20 => k_is); (case c20 => k_is); (case k20 => k_is); (case a21 => k_is)
    (case l21 => k_is); (case c21 => k_is); (case k21 => k_is); (case a22 => k_is)
    (case l22 => k_is); (case c22 => k_is); (case k22 => k_is); (case a23 => k_is)
    (case l23 => k_is); (case c23 => k_is); (case k23 => k_is); (case a24 => k_is)
    (case l24 => k_is); (case c24 => k_is); (case k24 => k_is); (case d24 => k_is)
    (case t24 => k_is); (case a25 => k_is); (case l25 => k_is); (case c25 => k_is)
    (case k25 => k_is); (case a26 => k_is); (case l26 => k_is); (case c26 => k_is)
    (case k26 => k_is); (case a27 => k_is); (case l27 => k_is); (case c27 => k_is)
    (case k27 => k_is); (case a28 => k_is); (case l28 => k_is); (case c28 => k_is)
    (case k28 => k_is); (case a29 => k_is); (case l29 => k_is); (case c29 => k_is)
    (case k29 => k_is); (case a30 => k_is); (case l30 => k_is); (case c30 => k_is)
    (case k30 => k_is); (case a31 => k_is); (case l31 => k_is); (case c31 => k_is)
    (case k31 => k_is); (case a32 => k_is); (case l32 => k_is); (case c32 => k_is)
    (case k32 => k_is); (case a33 => k_is); (case l33 => k_is); (case c33 => k_is)
    (case k33 => k_is); (case a34 => k_is); (case l34 => k_is); (case c34 => k_is)
    (case k34 => k_is); (case a35 => k_is); (case l35 => k_is); (case c35 => k_is)
    (case k35 => k_is); (case a36 => k_is); (case l36 => k_is); (case c36 => k_is)
    (case k36 => k_is); (case a37 => k_is); (case l37 => k_is); (case c37 => k_is)
    (case k37 => k_is); (case a38 => k_is); (case l38 => k_is); (case c38 => k_is)
    (case k38 => k_is); (case a39 => k_is); (case l39 => k_is); (case c39 => k_is)
    (case k39 => k_is); (case a40 => k_is); (case l40 => k_is); (case c40 => k_is)
    (case k40 => k_is); (case a41 => k_is); (case l41 => k_is); (case c41 => k_is)
    (case k41 => k_is); (case a42 => k_is); (case l42 => k_is); (case c42 => k_is)
    (case k42 => k_is); (case z0 => k_is); (case z1 => k_is); (case z2 => k_is)
    (case z3 => k_is); (case z4 => k_is); (case z5 => k_is); (case z6 => k_is)
    (case z7 => k_is); (case z8 => k_is); (case z9 => k_is); (case z10 => k_is)
    (case z11 => k_is); (case z12 => k_is); (case z13 => k_is); (case z14 => k_is)
    (case z15 => k_is); (case z16 => k_is); (case z17 => k_is); (case z18 => k_is)
    (case z19 => k_is); (case z20 => k_is); (case w0 => k_is); (case w1 => k_is)
    (case w2 => k_is); (case w3 => k_is); (case y0 => k_is); (case y1 => k_is)
    (case y2 => k_is); (case y3 => k_is); (case y4 => k_is); (case y5 => k_is)
    (case y6 => k_is); (case y7 => k_is); (case xa0 => k_is); (case xb0 => k_is)
    (case xc0 => k_is); (case xd0 => k_is); (case xe0 => k_is); (case xf0 => k_is)
    (case xg0 => k_is); (case xh0 => k_is); (case xi0 => k_is); (case xj0 => k_is)
    (case xk0 => k_is); (case xl0 => k_is); (case xm0 => k_is); (case xn0 => k_is)
    (case xo0 => k_is); (case xp0 => k_is); (case xq0 => k_is); (case xr0 => k_is)

