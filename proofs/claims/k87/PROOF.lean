import PyProof.Rows.All
import Wide.All
import OpenK.AllK
import Wide.FinOn
import HandS.ForMost
import HandS.Exc
import HandS.EndBits
import HandS.Wide
import HandS.Codes
import HandS.TupAny
import HandS.IsInst
import HandS.Walk
import HandS.Flow
import HandS.SetKeys
import HandS.SortKw
import HandS.Style
import KE.SortData
import HandS.More
import HandS.DictComp
import HandS.Defaults
import HandS.Deep
import PyProof.RowDictHeap
import PyProof.ReprRoads
import PyProof.ReprBulk
import HandS.MakeKwOnly
import HandS.Star
import OpenK.KOps
import PySem.Challenge.RW_threeturned_k87_waiting_nodes
import HandS.ExcInit
import HandS.ExcIs
import HandS.ExcField
import HandS.Nested
import KE.GoesEnum
import KE.GoesMore
import HandS.Finally
import PyProof.DictUpdate
import HandS.RaiseMore
import HandS.Lambda
import KE.DataMinKey
import PyProof.P3In
import KE.DataCmp
import HandS.Iter
import HandS.Conv
import KE.KDictSum
import PyProof.TupleOfSeq
import KE.GoesZip
import KE.KDictCopyH
import HandS.Steps
import KE.KExcInit
import HandS.WordsExc
import PyProof.EqKinds
import PyProof.FactsAll.dict
import PyProof.FactsAll.subtypes
import HandS.DeepEq
import PyProof.NeKinds
import HandS.EndTab
set_option Elab.async false
set_option linter.all false
set_option maxRecDepth 100000
set_option maxHeartbeats 4000000
/-! calls with room and with nothing being shown (guards known) -/
namespace U
open PySem PySem.Spec PyProof.Rows L2

/-- room for k calls, and no repr is under way -/
structure Rm (k : Nat) (A : Around) : Prop where
  r : Room k A
  g : A.guards = some []
theorem Rm.mono {j k : Nat} {A : Around} (h : Rm k A) (hj : j ≤ k) : Rm j A := ⟨h.r.mono hj, h.g⟩
theorem Rm.deeper {k : Nat} {A : Around} (h : Rm (k + 1) A) (env : Env) : Rm k (A.deeper env) := ⟨h.r.deeper env, h.g⟩
theorem Rm.u1 {k : Nat} {A : Around} (h : Rm k A) : A.units + 1 < cLine := by
  have z := h.r.un
  omega
theorem Rm.u64 {k : Nat} {A : Around} (h : Rm k A) : A.units + 64 < cLine := h.r.units
theorem Rm.u0 {k : Nat} {A : Around} (h : Rm k A) : A.units < cLine := by
  have z := h.r.un
  omega
theorem Rm.u100 {k : Nat} {A : Around} (h : Rm k A) : A.units + 150 < cLine := by
  have z := h.r.un
  omega

/-- the def at f keeps the promise sp -/
structure FnG (P : Program) (w : World) (K : PySem.W.Frag) (mg : Str → Option Value) (base : Heap) (CX : CXT) (k : Nat) (f : Addr) (fd : FuncData) (ps : List Str) (sp : Sp) : Prop where
  len : ∀ vs H Q E, sp vs H Q E → vs.length = ps.length
  go : ∀ (A : Around) (outer : List Env) (s : Shared) (H : Hp) (args : Args) (us : List Value) (vs : List V) (Q : VK) (E : XK), Rm k A →
    Env0 P w K mg base A outer s H → BindsTo s fd args (ps.zip us) → Vals vs us → sp vs H Q E → codeAny (model P w) A (.call (.ref f) args) (CR CX outer P w H s Q E) s
/-- room ran out of is no way: L2's own promise serves -/
theorem FnG.of {P : Program} {w : World} {K : PySem.W.Frag} {mg : Str → Option Value} {base : Heap} {CX : CXT} {k : Nat} {f : Addr} {fd : FuncData} {ps : List Str} {sp : Sp} (F : FnOk P w K mg base CX k f fd ps sp) : FnG P w K mg base CX k f fd ps sp :=
  ⟨F.len, fun A outer s H args us vs Q E hr => F.run A outer s H args us vs Q E hr.r⟩

section
variable {P : Program} {w : World} {K : PySem.W.Frag} {mg : Str → Option Value} {base : Heap} {CX : CXT}
/-- a def by its body -/
theorem fnG {x qual : Str} {st : Stmt} {f : Addr} {fd : FuncData} {N ps : List Str} {k : Nat} {sp : Sp} (F : Fun K x qual st f fd) (S : FnScope N ps (defScope st)) (len : ∀ vs H Q E, sp vs H Q E → vs.length = ps.length)
    (body : ∀ (cdv : Value) (A : Around) (outer : List Env) (s : Shared) (H : Hp) (vs : List V) (Q : VK) (E : XK), Rm k (A.deeper (envOfC qual (defScope st) s.heap.objs.size f cdv)) → sp vs H Q E →
      ∃ t, PSs (cxOf CX P w K mg base N qual (defScope st) f cdv A outer s H E) (defBody st) t ∧ t { nx := fun _ H' => Q .non H', rt := Q } (start N vs) H) :
    FnG P w K mg base CX (k + 1) f fd ps sp := by
  obtain ⟨oc, od, kV, doc, pm, an, cdv, ct, osl, rfl, lk, hcd⟩ := F.ex
  refine ⟨len, fun A outer s H args us vs Q E room e0 bd rel want => ?_⟩
  have count := len _ _ _ _ want
  have kin : K.In s.heap := e0.mod.kin.keeps fun b o e => (e0.bs b o e).1
  have kinds : ∀ y ∈ ps.zip us, (defScope st).names.lookup y.1 = some .local ∨ ((defScope st).names.lookup y.1 = some .cell ∧ ((cellsFrom (s.heap.objs.size + 1) (defScope st).names []).lookup y.1).isSome = true) := by
    rintro ⟨n, v⟩ hy
    cases S.par n (List.of_mem_zip hy).1 with
    | inl q => exact .inl q
    | inr q => exact .inr ⟨q, PySem.W.cellsFrom_some _ _ _ (.inl q)⟩
  apply codeAny_call_function room.r.depth (kin _ _ lk) rfl S.co S.gen rfl (PySem.W.codeRec_of kin hcd) (bd _ _ _ _ _)
  apply wpAny_newFunctionEnv_cells S.kind kinds
  intro env he s1 x
  subst he
  have lim : s.heap.NoLimit := e0.mod.nolimit.keeps fun b o e => (e0.bs b o e).1
  refine ⟨lim.keeps x.toInCall.keep, codeAny_func ?_⟩
  obtain ⟨t, ht, want'⟩ := body cdv A outer s H vs Q E (room.deeper _) want
  have I := inv_start (CX := CX) (P := P) (w := w) (K := K) (mg := mg) (base := base) (E := E) S room.r.hd e0 count rel x
  refine wpAny_mono (ht.run [] s1 (start N vs) H _ I want') ?_ fun e s' hs => hs
  intro fl s' hs
  cases fl with
  | ret u =>
    obtain ⟨v, σ', H', J, rv, q⟩ := hs
    exact ⟨v, H', J.os, J.bare, J.base, J.hok, rv, q⟩
  | next =>
    obtain ⟨σ', H', J, q⟩ := hs
    exact ⟨V.non, H', J.os, J.bare, J.base, J.hok, rfl, q⟩
  | brk => exact hs.elim fun _ z => z.elim fun _ z => z.2.elim
  | cont => exact hs.elim fun _ z => z.elim fun _ z => z.2.elim
/-- a def that no exception leaves -/
theorem fnG0 {x qual : Str} {st : Stmt} {f : Addr} {fd : FuncData} {N ps : List Str} {k : Nat} {sp : Sp} (F : Fun K x qual st f fd) (S : FnScope N ps (defScope st)) (len : ∀ vs H Q E, sp vs H Q E → vs.length = ps.length)
    (body : ∀ (cdv : Value) (A : Around) (outer : List Env) (s : Shared) (H : Hp) (vs : List V) (Q : VK) (E : XK), Rm k (A.deeper (envOfC qual (defScope st) s.heap.objs.size f cdv)) → sp vs H Q E →
      ∃ t, PSs (cxOf CX0 P w K mg base N qual (defScope st) f cdv A outer s H E).nox (defBody st) t ∧ t { nx := fun _ H' => Q .non H', rt := Q } (start N vs) H) :
    FnG P w K mg base CX0 (k + 1) f fd ps sp := fnG F S len fun cdv A outer s H vs Q E hr h => by
  obtain ⟨t, p, q⟩ := body cdv A outer s H vs Q E hr h
  exact ⟨t, p.nox, q⟩
/-- a def that may be called by its global name -/
structure Cal (P : Program) (w : World) (K : PySem.W.Frag) (mg : Str → Option Value) (base : Heap) (CX : CXT) (k : Nat) (x : Str) (sp : Sp) : Prop where
  ex : ∃ (f : Addr) (fd : FuncData) (ps : List Str), FnG P w K mg base CX k f fd ps sp ∧ mg x = some (.ref f) ∧ PySem.W.keepIn K (.ref f) = true ∧ Binds K fd ps []
end

section
variable {X : Cx} {CX : L2.CXT} {k j : Nat} {f : Addr} {fd : FuncData} {ps : List Str} {sp : Sp} {E : XK} {x : Str} {p pos : Pos} {e : Expr} {es : List Expr} {t : TA}
theorem callG {pins : List (Addr × Obj)} {σ : L2.St} {H : Hp} {s : Shared} {Q : VK} {us : List Value} {vs : List V} (F : FnG X.prog X.w X.K X.mg X.base CX k f fd ps sp) (hr : Rm k X.A) (hb : Binds X.K fd ps []) (hx : Passes CX X E)
    (I : Inv X pins σ H s) (r : Vals vs us) (h : sp vs H Q E) : wpAny (model X.prog X.w) X.A (call (.ref f) us) (EP X pins σ Q) X.xe s := by
  have count : us.length = ps.length := r.length ▸ F.len _ _ _ _ h
  have bd := hb s us I.kIn (by rw [List.append_nil]; exact count)
  rw [List.append_nil] at bd
  refine wpAny_call (codeAny_mono (F.go X.A X.stack s H ⟨us, []⟩ us vs Q E hr I.env0 bd r h) ?_)
  intro res s' hq
  cases res with
  | error er => exact hx pins σ H s er s' I hq
  | ok fl =>
    cases fl with
    | ret u => exact I.after hq
    | next => exact hq.elim
    | brk => exact hq.elim
    | cont => exact hq.elim
/-- f(..): the promise -/
def tC1 (sp : Sp) (E : XK) (t : TA) : TE := fun σ H Q => t σ H fun vs H1 => sp vs H1 Q E
theorem pe_cG (c : Cal X.prog X.w X.K X.mg X.base CX k x sp) (hr : Rm j X.A) (hk : k ≤ j) (hg : Gl X x) (hx : Passes CX X E) (ha : PA X (e :: es) t)
    (hdb : (x == ("__debug__" : Str)) = false := by decide) (he : starEach (e :: es) X.env = (false, eval e X.env) :: starEach es X.env := by rfl) (hpl : (backTo pos (starEach es X.env)).any (·.1) = false := by rfl) :
    PE X (.Call (.Name x p) (e :: es) [] pos) (tC1 sp E t) := by
  obtain ⟨f, fd, ps, F, hm, kp, b⟩ := c.ex
  refine ⟨fun pins s σ H Q I h => wpAny_Call_Name_kw (ld_glob I hg hm ?_ hdb)⟩
  refine PySem.W.callWith_K (h₀ := X.base) I.ok.mod.kin kp (thn (ha.run pos pins s σ H _ I h) ?_) he hpl
  rintro us s1 ⟨vs, H1, I1, r, q⟩
  exact ⟨I1.kIn, callG F (hr.mono hk) b hx I1 r q⟩
theorem pe_c (c : Cal X.prog X.w X.K X.mg X.base CX0 k x sp) (hr : Rm j X.A) (hk : k ≤ j) (hg : Gl X x) (ha : PA X (e :: es) t)
    (hdb : (x == ("__debug__" : Str)) = false := by decide) (he : starEach (e :: es) X.env = (false, eval e X.env) :: starEach es X.env := by rfl) (hpl : (backTo pos (starEach es X.env)).any (·.1) = false := by rfl) :
    PE X (.Call (.Name x p) (e :: es) [] pos) (tC1 sp E0 t) := pe_cG c hr hk hg pass0 ha hdb he hpl
/-- .. what is raised is wished for at the caller's slots -/
def tC2 (sp : Sp) (W : WX) (t : TA) : TE := fun σ H Q => t σ H fun vs H1 => sp vs H1 Q fun cls d H' => W cls d σ H'
theorem pe_cX {W : WX} (c : Cal X.prog X.w X.K X.mg X.base (L2.CX X.prog X.w) k x sp) (hr : Rm j X.A) (hk : k ≤ j) (hg : Gl X x) (tk : Takes X W) (ha : PA X (e :: es) t)
    (hdb : (x == ("__debug__" : Str)) = false := by decide) (he : starEach (e :: es) X.env = (false, eval e X.env) :: starEach es X.env := by rfl) (hpl : (backTo pos (starEach es X.env)).any (·.1) = false := by rfl) :
    PE X (.Call (.Name x p) (e :: es) [] pos) (tC2 sp W t) := by
  obtain ⟨f, fd, ps, F, hm, kp, b⟩ := c.ex
  refine ⟨fun pins s σ H Q I h => wpAny_Call_Name_kw (ld_glob I hg hm ?_ hdb)⟩
  refine PySem.W.callWith_K (h₀ := X.base) I.ok.mod.kin kp (thn (ha.run pos pins s σ H _ I h) ?_) he hpl
  rintro us s1 ⟨vs, H1, I1, r, q⟩
  refine ⟨I1.kIn, ?_⟩
  have count : us.length = ps.length := r.length ▸ F.len _ _ _ _ q
  have bd := b s1 us I1.kIn (by rw [List.append_nil]; exact count)
  rw [List.append_nil] at bd
  refine wpAny_call (codeAny_mono (F.go X.A X.stack s1 H1 ⟨us, []⟩ us vs _ _ (hr.mono hk) I1.env0 bd r q) ?_)
  intro res s' hq
  cases res with
  | error er => exact tk er s' (XE.of_call I1 (fun cls d H' z => z) hq)
  | ok fl =>
    cases fl with
    | ret u => exact I1.after hq
    | next => exact hq.elim
    | brk => exact hq.elim
    | cont => exact hq.elim
end

/-! ### the law's own head -/
end U

/-! operators by the values that come: one rule an operator -/
namespace U
open PySem PySem.Spec PyProof.Rows L2
section
variable {X : Cx}

/-! ### names of the world -/
theorem bb_len : bootBuiltins "len" = some (.builtin "len") := by decide +kernel
theorem bb_abs : bootBuiltins "abs" = some (.builtin "abs") := by decide +kernel
theorem bb_sorted : bootBuiltins "sorted" = some (.builtin "sorted") := by decide +kernel
theorem bb_all : bootBuiltins "all" = some (.builtin "all") := by decide +kernel
theorem bb_isinstance : bootBuiltins "isinstance" = some (.builtin "isinstance") := by decide +kernel
theorem bb_repr : bootBuiltins "repr" = some (.builtin "repr") := by decide +kernel
theorem bb_int : bootBuiltins "int" = some (.type "int") := by decide +kernel
theorem bb_list : bootBuiltins "list" = some (.type "list") := by decide +kernel
theorem bb_tuple : bootBuiltins "tuple" = some (.type "tuple") := by decide +kernel
theorem bb_dict : bootBuiltins "dict" = some (.type "dict") := by decide +kernel
theorem bb_str : bootBuiltins "str" = some (.type "str") := by decide +kernel
theorem bb_bool : bootBuiltins "bool" = some (.type "bool") := by decide +kernel
theorem pe_ty {x : Str} {T : String} {pos : Pos} (hg : Gl X x) (hm : X.mg x = none) (hv : bootBuiltins x = some (.type T)) (hn : x ≠ "__name__" := by decide) (hd : (x == ("__debug__" : Str)) = false := by decide) :
    PE X (.Name x pos) (tC (.ty T)) := pe_bltn hg hm hv rfl hn hd
theorem pe_gl {x : Str} {v : V} {pos : Pos} (hg : Gl X x) (h : ∃ u, X.mg x = some u ∧ RelV v u) (hd : (x == ("__debug__" : Str)) = false := by decide) : PE X (.Name x pos) (tC v) := by
  obtain ⟨u, hm, r⟩ := h
  exact pe_glob hg hm r hd

/-! ### + - * % // ** -/
/-- what is wanted where a new list, a new tuple comes -/
def nL (xs : List V) (H : Hp) (Q : VK) : Prop := ∀ p, H p = none → Q (.ref p) (upd H p (.lst xs))
def nT (xs : List V) (H : Hp) (Q : VK) : Prop := ∀ p, H p = none → Q (.ref p) (upd H p (.tup xs))
def rAddU (K : PySem.W.Frag) : R2 := fun x y H Q => match x, y with
  | .int i, .int j => Q (.int (i + j)) H
  | .str a, .str b => a.length + b.length ≤ sizeLine ∧ Q (.str (a ++ b)) H
  | .ref a, .ref b => (∃ xs ys, H a = some (.lst xs) ∧ H b = some (.lst ys) ∧ xs.length + ys.length ≤ sizeLine ∧ nL (xs ++ ys) H Q) ∨ rCatA K (.ref a) (.ref b) H Q
  | _, _ => False
theorem uAdd : OpR X (binaryOp .Add) (rAddU X.K) := by
  intro pins s σ H x y v u Q I rx ry h
  cases x <;> cases y <;> first | exact h.elim | skip
  · exact op_add pins s σ H _ _ v u Q I rx ry ⟨_, _, rfl, rfl, h⟩
  · exact op_add_str pins s σ H _ _ v u Q I rx ry ⟨_, _, rfl, rfl, h⟩
  · rcases h with ⟨xs, ys, h1, h2, h3, h4⟩ | h
    · exact op_cat pins s σ H _ _ v u Q I rx ry ⟨_, _, _, _, rfl, rfl, h1, h2, h3, h4⟩
    · exact op_catA pins s σ H _ _ v u Q I rx ry h
def rSubU : R2 := fun x y H Q => match x, y with
  | .int i, .int j => Q (.int (i - j)) H
  | _, _ => False
theorem uSub : OpR X (binaryOp .Sub) rSubU := by
  intro pins s σ H x y v u Q I rx ry h
  cases x <;> cases y <;> first | exact h.elim | exact op_sub pins s σ H _ _ v u Q I rx ry ⟨_, _, rfl, rfl, h⟩
/-- a text k times -/
def timesS (z : Str) (k : Int) : Str := ⟨((List.replicate k.toNat z.cps.toList).flatten).toArray⟩
theorem timesS_one (z : Str) : timesS z 1 = z := by
  unfold timesS
  simp
theorem timesS_neg {z : Str} {k : Int} (h : k < 1) : timesS z k = Str.empty := by
  unfold timesS
  have e : k.toNat = 0 := by omega
  rw [e]
  rfl
theorem fold_rep (a : Array Nat) : ∀ (n : Nat) (acc : Array Nat), (List.replicate n a).foldl (· ++ ·) acc = acc ++ ((List.replicate n a.toList).flatten).toArray
  | 0, acc => by simp
  | n + 1, acc => by
    rw [List.replicate_succ, List.foldl_cons, fold_rep a n, List.replicate_succ, List.flatten_cons]
    apply Array.ext'
    simp
theorem timesS_nil {z : Str} {k : Int} (h : z.length = 0) : timesS z k = z := by
  obtain ⟨a⟩ := z
  have e : a = #[] := Array.size_eq_zero_iff.mp h
  subst e
  unfold timesS
  have : (List.replicate k.toNat ([] : List Nat)).flatten = [] := by
    rw [List.flatten_eq_nil_iff]
    intro l hl
    exact List.eq_of_mem_replicate hl
  show (⟨((List.replicate k.toNat ([] : List Nat)).flatten).toArray⟩ : Str) = ⟨#[]⟩
  rw [this]
def rMulU : R2 := fun x y H Q => match x, y with
  | .int i, .int j => (CMul i j ∨ CMulW i j) ∧ Q (.int (i * j)) H
  | .str z, .int k => (0 ≤ k ∧ k ≤ 1000 ∧ z.length ≤ 1000) ∧ Q (.str (timesS z k)) H
  | .ref l, .int k => rRep (.ref l) (.int k) H Q
  | _, _ => False
theorem uMul : OpR X (binaryOp .Mult) rMulU := by
  intro pins s σ H x y v u Q I rx ry h
  cases x <;> cases y <;> first | exact h.elim | skip
  · obtain ⟨c | c, h⟩ := h
    · exact op_mul pins s σ H _ _ v u Q I rx ry ⟨_, _, rfl, rfl, c, h⟩
    · exact op_mulW pins s σ H _ _ v u Q I rx ry ⟨_, _, rfl, rfl, c, h⟩
  · rename_i z k
    obtain ⟨⟨h0, h1, hz⟩, q⟩ := h
    obtain ⟨t, rfl⟩ := rx
    obtain ⟨t', rfl⟩ := ry
    have hl : z.length * k.toNat ≤ 1000 * 1000 := Nat.mul_le_mul hz (by omega)
    refine P.mul_str ?_ ?_ ?_ ?_
    · have a : ¬ k < -(2 ^ 63) := by omega
      have b : ¬ k ≥ 2 ^ 63 := by omega
      rw [decide_eq_false a, decide_eq_false b]
      rfl
    · intro _ _ bad
      have : (z.length : Int) ≤ 1000 := by omega
      have e : (1000 : Int) ≤ (2 ^ 63 - 1) / k := by
        rw [Int.le_ediv_iff_mul_le (by omega)]
        have : (1000 : Int) * k ≤ 1000 * 1000 := Int.mul_le_mul_of_nonneg_left h1 (by decide)
        omega
      omega
    · intro _ _
      unfold Builtin.Str.tooLong
      have : z.length * k.toNat ≤ sizeLine := Nat.le_trans hl (by decide)
      simp
      exact this
    · split
      · rename_i hk
        rw [timesS_neg hk] at q
        exact ⟨by decide, ⟨.str Str.empty, H, I.tok _, ⟨_, rfl⟩, q⟩⟩
      · split
        · rename_i hk hc
          have e : timesS z k = z := by
            rcases (Bool.or_eq_true _ _).mp hc with c | c
            · have : k = 1 := by simpa using c
              rw [this, timesS_one]
            · exact timesS_nil (by simpa using c)
          rw [e] at q
          exact ⟨.str z, H, I.tok _, ⟨_, rfl⟩, q⟩
        · have e : (⟨(List.replicate k.toNat z.cps).foldl (· ++ ·) #[]⟩ : Str) = timesS z k := by
            rw [fold_rep]
            unfold timesS
            congr 1
            simp
          rw [e]
          refine ⟨?_, ⟨.str (timesS z k), H, I.tok _, ⟨_, rfl⟩, q⟩⟩
          have : (timesS z k).length = k.toNat * z.length := by
            unfold timesS Str.length
            simp
          rw [this, Nat.mul_comm]
          exact Nat.le_trans hl (by decide)
  · exact op_rep pins s σ H _ _ v u Q I rx ry h
def rModU : R2 := fun x y H Q => match x, y with
  | .int i, .int j => 0 < j ∧ Q (.int (i % j)) H
  | _, _ => False
theorem uMod : OpR X (binaryOp .Mod) rModU := by
  intro pins s σ H x y v u Q I rx ry h
  cases x <;> cases y <;> first | exact h.elim | exact op_mod pins s σ H _ _ v u Q I rx ry ⟨_, _, rfl, rfl, h.1, h.2⟩
def rDivU : R2 := fun x y H Q => match x, y with
  | .int i, .int j => (0 < j ∧ j < 1073741824) ∧ Q (.int (i / j)) H
  | _, _ => False
theorem uDiv : OpR X (binaryOp .FloorDiv) rDivU := by
  intro pins s σ H x y v u Q I rx ry h
  cases x <;> cases y <;> first | exact h.elim | exact op_fdiv pins s σ H _ _ v u Q I rx ry ⟨_, _, rfl, rfl, h.1, h.2⟩
def rPowU : R2 := fun x y H Q => match x, y with
  | .int i, .int j => CPow i j ∧ Q (.int (i ^ j.toNat)) H
  | _, _ => False
theorem uPow : OpR X (binaryOp .Pow) rPowU := by
  intro pins s σ H x y v u Q I rx ry h
  cases x <;> cases y <;> first | exact h.elim | exact op_pow pins s σ H _ _ v u Q I rx ry ⟨_, _, rfl, rfl, h.1, h.2⟩

/-! ### < <= > >= -/
def rLtU : R2 := fun x y H Q => match x, y with
  | .int i, .int j => Q (.bl (decide (i < j))) H
  | .str a, .str b => Q (.bl (decide (a.cps.toList < b.cps.toList))) H
  | _, _ => False
theorem uLt : OpR X (compareOp .Lt) rLtU := by
  intro pins s σ H x y v u Q I rx ry h
  cases x <;> cases y <;> first | exact h.elim | exact op_lt pins s σ H _ _ v u Q I rx ry ⟨_, _, rfl, rfl, h⟩ | exact op_lt_str pins s σ H _ _ v u Q I rx ry ⟨_, _, rfl, rfl, h⟩
def rLeU : R2 := fun x y H Q => match x, y with
  | .int i, .int j => Q (.bl (decide (i ≤ j))) H
  | _, _ => False
theorem uLe : OpR X (compareOp .LtE) rLeU := by
  intro pins s σ H x y v u Q I rx ry h
  cases x <;> cases y <;> first | exact h.elim | exact op_le pins s σ H _ _ v u Q I rx ry ⟨_, _, rfl, rfl, h⟩
def rGtU : R2 := fun x y H Q => match x, y with
  | .int i, .int j => Q (.bl (decide (j < i))) H
  | _, _ => False
theorem uGt : OpR X (compareOp .Gt) rGtU := by
  intro pins s σ H x y v u Q I rx ry h
  cases x <;> cases y <;> first | exact h.elim | exact op_gt pins s σ H _ _ v u Q I rx ry ⟨_, _, rfl, rfl, h⟩
def rGeU : R2 := fun x y H Q => match x, y with
  | .int i, .int j => Q (.bl (decide (j ≤ i))) H
  | _, _ => False
theorem uGe : OpR X (compareOp .GtE) rGeU := by
  intro pins s σ H x y v u Q I rx ry h
  cases x <;> cases y <;> first | exact h.elim | exact op_ge pins s σ H _ _ v u Q I rx ry ⟨_, _, rfl, rfl, h⟩

/-! ### == != is, is not -/
/-- == of any two: what is told of them is data -/
def eqB (x y : V) : Option Bool := match x, y with
  | .int i, .int j => some (decide (i = j))
  | .str a, .str b => some (decide (a = b))
  | .bl a, .bl b => some (decide (a = b))
  | .non, .non => some true
  | .int _, .str _ => some false
  | .str _, .int _ => some false
  | .non, .str _ => some false
  | .str _, .non => some false
  | .non, .int _ => some false
  | .int _, .non => some false
  | .bl _, .str _ => some false
  | .str _, .bl _ => some false
  | .bl _, .non => some false
  | .non, .bl _ => some false
  | _, _ => none
theorem eqB_scal {x y : V} {b : Bool} (h : eqB x y = some b) : scal x y = true ∧ decide (x = y) = b := by
  cases x <;> cases y <;> simp_all [eqB, scal]
def rEqU (K : PySem.W.Frag) : R2 := fun x y H Q => match eqB x y with
  | some b => Q (.bl b) H
  | none => rEqD K x y H Q
def rNeU (K : PySem.W.Frag) : R2 := fun x y H Q => match eqB x y with
  | some b => Q (.bl (!b)) H
  | none => rNeD K x y H Q
theorem uEq' (hu : X.A.units + 64 < cLine) : OpR X (compareOp .Eq) (rEqU X.K) := by
  intro pins s σ H x y v u Q I rx ry h
  unfold rEqU at h
  cases e : eqB x y with
  | some b =>
    rw [e] at h
    obtain ⟨z1, z2⟩ := eqB_scal e
    exact op_eq pins s σ H _ _ v u Q I rx ry ⟨z1, by rw [z2]; exact h⟩
  | none =>
    rw [e] at h
    exact op_eqD hu pins s σ H _ _ v u Q I rx ry h
theorem uNe' (hu : X.A.units + 64 < cLine) : OpR X (compareOp .NotEq) (rNeU X.K) := by
  intro pins s σ H x y v u Q I rx ry h
  unfold rNeU at h
  cases e : eqB x y with
  | some b =>
    rw [e] at h
    obtain ⟨z1, z2⟩ := eqB_scal e
    exact op_ne pins s σ H _ _ v u Q I rx ry ⟨z1, by rw [z2]; exact h⟩
  | none =>
    rw [e] at h
    exact op_neD hu pins s σ H _ _ v u Q I rx ry h
def rIsU : R2 := fun x y H Q => match y with
  | .non => Q (.bl (decide (x = .non))) H
  | .bl b => ∃ a, x = .bl a ∧ Q (.bl (decide (a = b))) H
  | _ => False
def rIsNotU : R2 := fun x y H Q => match y with
  | .non => Q (.bl (!decide (x = .non))) H
  | .bl b => ∃ a, x = .bl a ∧ Q (.bl (!decide (a = b))) H
  | _ => False
theorem uIsNot : OpR X (compareOp .IsNot) rIsNotU := by
  intro pins s σ H x y v u Q I rx ry h
  cases y <;> first | exact h.elim | exact op_notN pins s σ H _ _ v u Q I rx ry ⟨rfl, h⟩ | skip
  obtain ⟨a, rfl, h⟩ := h
  exact op_notBl pins s σ H _ _ v u Q I rx ry ⟨_, _, rfl, rfl, h⟩

/-! ### in, not in: lists and tuples -/
def rInU (K : PySem.W.Frag) : R2 := fun x y H Q => match y with
  | .ref p => ∃ xs, (SqL K H p xs ∨ SqT K H p xs) ∧ ((flatV x = true ∧ xs.all flatV = true ∧ Q (.bl (inV x xs)) H))
  | _ => False
theorem uIn : OpR X (compareOp .In) (rInU X.K) := by
  intro pins s σ H x y v u Q I rx ry h
  cases y <;> first | exact h.elim | skip
  obtain ⟨xs, h1, h2, h3, h4⟩ := h
  exact op_in_seq pins s σ H _ _ v u Q I rx ry ⟨_, xs, rfl, h1, h2, h3, h4⟩
def rNotInU (K : PySem.W.Frag) : R2 := fun x y H Q => match y with
  | .ref p => ∃ xs, (SqL K H p xs ∨ SqT K H p xs) ∧ ((flatV x = true ∧ xs.all flatV = true ∧ Q (.bl (!inV x xs)) H))
  | _ => False
theorem uNotIn : OpR X (compareOp .NotIn) (rNotInU X.K) := by
  intro pins s σ H x y v u Q I rx ry h
  cases y <;> first | exact h.elim | skip
  obtain ⟨xs, h1, h2, h3, h4⟩ := h
  exact op_notIn_seq pins s σ H _ _ v u Q I rx ry ⟨_, xs, rfl, h1, h2, h3, h4⟩

/-! ### o[i], o[a:b] -/
def rIxU (K : PySem.W.Frag) : R2 := fun x y H Q => match x, y with
  | .str z, .int i => z.length ≤ sizeLine ∧ ∃ c, atI z.cps.toList i = some c ∧ Q (.str ⟨#[c]⟩) H
  | .ref p, .int i => ∃ xs, (SqL K H p xs ∨ SqT K H p xs) ∧ ∃ v, atI xs i = some v ∧ Q v H
  | _, _ => False
theorem uIx : IxR X (rIxU X.K) := by
  intro a b pins s σ H x y v u Q I rx ry h hs
  cases x <;> cases y <;> first | exact h.elim | skip
  · obtain ⟨h1, c, h2, h3⟩ := h
    exact ix_str a b pins s σ H _ _ v u Q I rx ry ⟨_, _, c, rfl, rfl, h1, h2, h3⟩ hs
  · obtain ⟨xs, h1 | h1, w', h2, h3⟩ := h
    · exact ix_list a b pins s σ H _ _ v u Q I rx ry ⟨_, xs, _, w', rfl, rfl, h1, h2, h3⟩ hs
    · exact ix_tup a b pins s σ H _ _ v u Q I rx ry ⟨_, xs, _, w', rfl, rfl, h1, h2, h3⟩ hs
end
end U

/-! slices, built-in functions by the values that come -/
namespace U
open PySem PySem.Spec PyProof.Rows L2
section
variable {X : Cx}
/-! ### slices -/
def rSlU (K : PySem.W.Frag) : V → Option Int → Option Int → Hp → VK → Prop := fun x lo hi H Q => match x with
  | .str z => z.length ≤ sizeLine ∧ Q (.str (cutS z lo hi)) H
  | .ref a => (∃ xs, SqL K H a xs ∧ nL (cutV xs lo hi) H Q) ∨ rSlA K (.ref a) lo hi H Q
  | _ => False
theorem uSl : SlR X (rSlU X.K) := by
  intro pins s σ H x v vl vu lo hi sl Q I rx hs pl pu h
  cases x <;> first | exact h.elim | skip
  · exact sl_str pins s σ H _ v vl vu lo hi sl Q I rx hs pl pu ⟨_, rfl, h.1, h.2⟩
  · rcases h with ⟨xs, h1, h2⟩ | h
    · exact sl_list pins s σ H _ v vl vu lo hi sl Q I rx hs pl pu ⟨_, xs, rfl, h1, h2⟩
    · exact sl_tupA pins s σ H _ v vl vu lo hi sl Q I rx hs pl pu h

/-! ### len, abs, max, min, int, list, tuple -/
def rLenU (K : PySem.W.Frag) : List V → Hp → VK → Prop := fun xs H Q => match xs with
  | [.str z] => z.length ≤ sizeLine ∧ Q (.int z.length) H
  | [.ref p] => (∃ ys, (SqL K H p ys ∨ SqT K H p ys) ∧ Q (.int ys.length) H) ∨ ∃ kvs, H p = some (.dK kvs) ∧ Q (.int kvs.length) H
  | _ => False
theorem cLen : CallR X (.builtin "len") (rLenU X.K) := by
  intro pins s σ H xs us Q I r h
  match xs, h with
  | [.str z], h => exact call_len_str pins s σ H _ us Q I r ⟨z, rfl, h.1, h.2⟩
  | [.ref p], .inl ⟨ys, h1, h2⟩ => exact call_len_seq pins s σ H _ us Q I r ⟨p, ys, rfl, h1, h2⟩
  | [.ref p], .inr ⟨kvs, h1, h2⟩ => exact call_lenD pins s σ H _ us Q I r ⟨p, kvs, rfl, h1, h2⟩
def rAbsU : List V → Hp → VK → Prop := fun xs H Q => match xs with
  | [.int i] => Q (.int (i.natAbs : Int)) H
  | _ => False
theorem cAbs : CallR X (.builtin "abs") rAbsU := by
  intro pins s σ H xs us Q I r h
  match xs, h with
  | [.int i], h =>
    refine call_abs pins s σ H _ us Q I r ⟨i, rfl, ?_⟩
    have e : (if i < 0 then -i else i) = (i.natAbs : Int) := by split <;> omega
    rw [e]
    exact h
def rMaxU : List V → Hp → VK → Prop := fun xs H Q => match xs with
  | [.int i, .int j] => Q (.int (max i j)) H
  | _ => False
def rMinU : List V → Hp → VK → Prop := fun xs H Q => match xs with
  | [.int i, .int j] => Q (.int (min i j)) H
  | _ => False
def bToI (k : Bool) : Int := if k then 1 else 0
def rIntU : List V → Hp → VK → Prop := fun xs H Q => match xs with
  | [.int i] => Q (.int i) H
  | [.bl k] => Q (.int (bToI k)) H
  | _ => False
def rListU (K : PySem.W.Frag) : List V → Hp → VK → Prop := fun xs H Q => match xs with
  | [.ref p] => (∃ ys, (SqL K H p ys ∨ SqT K H p ys) ∧ nL ys H Q) ∨ ∃ kvs : List (Key × V), Rd H p (.dK kvs) ∧ nL (kvs.map fun kv => kV kv.1) H Q
  | _ => False
theorem cList (hc : X.calm = true) : CallR X (.type "list") (rListU X.K) := by
  intro pins s σ H xs us Q I r h
  match xs, h with
  | [.ref p], .inl ⟨ys, h1, h2⟩ => exact call_list_of pins s σ H _ us Q I r ⟨p, ys, rfl, h1, h2⟩
  | [.ref p], .inr ⟨kvs, h1, h2⟩ => exact call_listD hc pins s σ H _ us Q I r ⟨p, kvs, rfl, h1, h2⟩
def rTupleU (K : PySem.W.Frag) : List V → Hp → VK → Prop := fun xs H Q => match xs with
  | [.ref p] => (∃ ys, SqL K H p ys ∧ nT ys H Q) ∨ ((∃ ys, SqT K H p ys) ∧ Q (.ref p) H)
  | _ => False
theorem cTuple : CallR X (.type "tuple") (rTupleU X.K) := by
  intro pins s σ H xs us Q I r h
  match xs, h with
  | [.ref p], .inl ⟨ys, h1, h2⟩ => exact call_tuple_of pins s σ H _ us Q I r ⟨p, ys, rfl, .inl ⟨h1, h2⟩⟩
  | [.ref p], .inr ⟨⟨ys, h1⟩, h2⟩ => exact call_tuple_of pins s σ H _ us Q I r ⟨p, ys, rfl, .inr ⟨h1, h2⟩⟩
def rDictU : List V → Hp → VK → Prop := fun xs H Q => match xs with
  | [.ref p] => ∃ kvs : List (Key × V), Rd H p (.dK kvs) ∧ ∀ d, H d = none → Q (.ref d) (upd H d (.dK kvs))
  | _ => False
theorem cDict : CallR X (.type "dict") rDictU := by
  intro pins s σ H xs us Q I r h
  match xs, h with
  | [.ref p], ⟨kvs, h1, h2⟩ => exact call_dictD pins s σ H _ us Q I r ⟨p, kvs, rfl, h1, h2⟩

def rAllU (K : PySem.W.Frag) : List V → Hp → VK → Prop := fun xs H Q => match xs with
  | [.ref p] => ∃ bs : List Bool, SqL K H p (bs.map V.bl) ∧ Q (.bl (bs.all id)) H
  | _ => False
theorem cAll (hc : X.calm = true) : CallR X (.builtin "all") (rAllU X.K) := by
  intro pins s σ H xs us Q I r h
  match xs, h with
  | [.ref p], ⟨bs, h1, h2⟩ => exact cr_all hc pins s σ H _ us Q I r ⟨p, bs, rfl, h1, h2⟩
/-! ### sorted -/
/-- a < b, of data -/
abbrev dLt (a b : PyData) : Bool := PySem.W.dataLt a b
/-- a list of what may be sorted -/
structure Sorts (K : PySem.W.Frag) (H : Hp) (bs : List (V × PyData)) : Prop where
  dat : ∀ b ∈ bs, Dp K H b.1 b.2
  alk : PySem.W.AllAlike (bs.map (·.2))
  srt : PySem.W.Sortable (bs.map (·.2))
  dep : ∀ b ∈ bs, b.2.depth ≤ 50
  len : bs.length ≤ 100000
def rSortU (K : PySem.W.Frag) : List V → Hp → VK → Prop := fun xs H Q => match xs with
  | [.ref p] => ∃ bs : List (V × PyData), SqL K H p (bs.map (·.1)) ∧ Sorts K H bs ∧
      ∀ cs : List (V × PyData), cs.Perm bs → cs.Pairwise (fun a b => dLt b.2 a.2 = false) → nL (cs.map (·.1)) H Q
  | _ => False
theorem each_vals : ∀ {bs : List (V × PyData)} {us : List Value}, Vals (bs.map (·.1)) us → PySem.W.EachIs (fun u b => RelV b.1 u) us bs
  | [], _, r => by
    cases r
    exact .nil
  | b :: bs, _, r => by
    cases r with
    | cons r1 r2 => exact .cons r1 (each_vals r2)
theorem vals_each : ∀ {bs : List (V × PyData)} {us : List Value}, PySem.W.EachIs (fun u b => RelV b.1 u) us bs → Vals (bs.map (·.1)) us
  | [], _, r => by
    cases r
    exact .nil
  | b :: bs, _, r => by
    cases r with
    | cons r1 r2 => exact .cons r1 (vals_each r2)
theorem each_reads {pins : List (Addr × Obj)} {σ : L2.St} {H : Hp} {s : Shared} (I : Inv X pins σ H s) : ∀ {bs : List (V × PyData)} {us : List Value}, (∀ b ∈ bs, Dp X.K H b.1 b.2) → Vals (bs.map (·.1)) us → PySem.W.EachIs (fun u b => ∃ as, Reads s.heap u b.2 as) us bs
  | [], _, _, r => by
    cases r
    exact .nil
  | b :: bs, _, h, r => by
    cases r with
    | cons r1 r2 => exact .cons (Dp.reads I _ _ _ (h b List.mem_cons_self) r1) (each_reads I (fun c hc => h c (List.mem_cons_of_mem _ hc)) r2)
theorem cSorted (hu : X.A.units + 64 < cLine) : CallR X (.builtin "sorted") (rSortU X.K) := by
  intro pins s σ H xs us Q I r h
  match xs, h with
  | [.ref p], ⟨bs, hs, S, q⟩ =>
    cases r with
    | cons r rr =>
      cases rr
      cases r
      obtain ⟨its, rv, pl, hz⟩ := I.list hs
      have e1 := each_vals rv
      have hb : ∀ b, b ∈ bs → X.A.units + 2 + b.2.depth < cLine := fun b hb => by
        have := S.dep b hb
        omega
      refine PySem.W.sorted_data (vs := its) (bs := bs) (enc := fun b : V × PyData => b.2) (R := fun u b => RelV b.1 u) pl.isList e1 (each_reads I S.dat rv) S.alk S.srt ?_ hb ?_
      · rw [List.length_map] at hz
        exact hz
      · intro out ol oe
        have perm : (bs.mergeSort (PySem.W.dataLe false fun b : V × PyData => b.2)).Perm bs := List.mergeSort_perm _ _
        have srt : (bs.mergeSort (PySem.W.dataLe false fun b : V × PyData => b.2)).Pairwise (fun a b => dLt b.2 a.2 = false) :=
          (PySem.W.sort_pairwise (PySem.W.sortLe_total _ _ _) bs).imp fun {a b} z => by
            have z' : (!dLt b.2 a.2) = true := z
            simpa using z'
        generalize bs.mergeSort (PySem.W.dataLe false fun b : V × PyData => b.2) = cs at perm srt oe
        have rv2 := vals_each oe
        have hfr : s.heap.objs.size ≤ s.heap.objs.size + 1 := Nat.le_succ _
        obtain ⟨e, he⟩ := sortedAll_at s.heap its out.toArray
        have new : ObjOk X.prog X.w (upd H (s.heap.objs.size + 1) (.lst (cs.map (·.1)))) (sortedAll s.heap its out.toArray) (s.heap.objs.size + 1) (.lst (cs.map (·.1))) :=
          ⟨by rw [List.length_map, perm.length_eq]; rw [List.length_map] at hz; exact hz, out, e, rv2, he⟩
        exact ⟨.ref (s.heap.objs.size + 1), _, I.laid (t' := s.toks) (fun b u z => sortedAll_old z) hfr new, rfl, q cs perm srt _ (I.hok.fresh hfr)⟩

/-! ### isinstance of built-in classes -/
inductive Ty where
  | non | bl | int | str | lst | tup | dct
  deriving DecidableEq
def Ty.nm : Ty → String
  | .non => "NoneType"
  | .bl => "bool"
  | .int => "int"
  | .str => "str"
  | .lst => "list"
  | .tup => "tuple"
  | .dct => "dict"
def isT (a b : Ty) : Bool := decide (a = b) || (decide (a = .bl) && decide (b = .int))
theorem isT_ok (a b : Ty) (hb : b ≠ .non) : kitB a.nm b.nm = some (isT a b) := by
  cases a <;> cases b <;> first | exact absurd rfl hb | decide +kernel
/-- a value's class -/
def TyIs (K : PySem.W.Frag) (H : Hp) (x : V) (a : Ty) : Prop := TyX K H x (.type a.nm)
def tyOf : String → Option Ty
  | "bool" => some .bl
  | "int" => some .int
  | "str" => some .str
  | "list" => some .lst
  | "tuple" => some .tup
  | "dict" => some .dct
  | _ => none
theorem tyOf_ok {n : String} {t : Ty} (h : tyOf n = some t) : n = t.nm ∧ t ≠ .non := by
  unfold tyOf at h
  split at h <;> first | (cases h; exact ⟨rfl, by decide⟩) | cases h
def rIsiU (K : PySem.W.Frag) : List V → Hp → VK → Prop := fun xs H Q => match xs with
  | [x, .ty n] => ∃ a t, TyIs K H x a ∧ tyOf n = some t ∧ Q (.bl (isT a t)) H
  | _ => False
theorem cIsi : CallR X (.builtin "isinstance") (rIsiU X.K) := by
  intro pins s σ H xs us Q I r h
  match xs, h with
  | [x, .ty n], ⟨a, t, h1, h2, h3⟩ =>
    obtain ⟨e, hn⟩ := tyOf_ok h2
    exact call_isi pins s σ H _ us Q I r ⟨x, _, _, _, _, rfl, .ty n, h1, kit_ty (by rw [e]; exact isT_ok a t hn), h3⟩
theorem ty_str {K : PySem.W.Frag} {H : Hp} {x : Str} : TyIs K H (.str x) .str := .base (.str x)
theorem ty_int {K : PySem.W.Frag} {H : Hp} {x : Int} : TyIs K H (.int x) .int := .base (.int x)
theorem ty_lst {K : PySem.W.Frag} {H : Hp} {a : Addr} {xs : List V} (h : H a = some (.lst xs)) : TyIs K H (.ref a) .lst := .base (.lst h)
theorem ty_tup {K : PySem.W.Frag} {H : Hp} {a : Addr} {xs : List V} (h : H a = some (.tup xs)) : TyIs K H (.ref a) .tup := .base (.tup h)
theorem ty_dK {K : PySem.W.Frag} {H : Hp} {a : Addr} {kvs : List (Key × V)} (h : H a = some (.dK kvs)) : TyIs K H (.ref a) .dct := .base (.dK h)
end
end U
namespace U
open PySem PySem.Spec PyProof.Rows L2
/-! the rules with the fragment told: they serve within a comprehension's block -/
section
variable {X : Cx} (K : PySem.W.Frag) (hK : X.K = K)
include hK
theorem kAdd : OpR X (binaryOp .Add) (rAddU K) := hK ▸ uAdd
theorem kEq (hu : X.A.units + 64 < cLine) : OpR X (compareOp .Eq) (rEqU K) := hK ▸ uEq' hu
theorem kNe (hu : X.A.units + 64 < cLine) : OpR X (compareOp .NotEq) (rNeU K) := hK ▸ uNe' hu
theorem kIn : OpR X (compareOp .In) (rInU K) := hK ▸ uIn
theorem kNotIn : OpR X (compareOp .NotIn) (rNotInU K) := hK ▸ uNotIn
theorem kIx : IxR X (rIxU K) := hK ▸ uIx
theorem kSl : SlR X (rSlU K) := hK ▸ uSl
theorem kLen : CallR X (.builtin "len") (rLenU K) := hK ▸ cLen
theorem kList (hc : X.calm = true) : CallR X (.type "list") (rListU K) := hK ▸ cList hc
theorem kTuple : CallR X (.type "tuple") (rTupleU K) := hK ▸ cTuple
theorem kAll (hc : X.calm = true) : CallR X (.builtin "all") (rAllU K) := hK ▸ cAll hc
theorem kSorted (hu : X.A.units + 64 < cLine) : CallR X (.builtin "sorted") (rSortU K) := hK ▸ cSorted hu
theorem kIsi : CallR X (.builtin "isinstance") (rIsiU K) := hK ▸ cIsi
theorem ki_list {tg l : Expr} {tl : TE} (hl : PE X l tl) : PI X tg l (iList K tl) := hK ▸ pi_list hl
theorem ki_tup {tg l : Expr} {tl : TE} (hl : PE X l tl) : PI X tg l (iTup K tl) := hK ▸ pi_tup hl
theorem kg_tup {pos : Pos} {es : List Expr} {k : Nat} {t : TGs} {n : Nat} (hc : X.calm = true) (h : PGs X es t)
    (hn : (assignEach es X.env).length = n := by rfl) (hst : (assignEach es X.env).findIdx? (·.1) = none := by rfl) : PG X (.Tuple es k pos) (gTup K n t) := hK ▸ pg_tup hc h hn hst
end
end U

/-! the readings, step by step: one lemma a form, one word for all that need no thought -/
namespace U
open PySem PySem.Spec PyProof.Rows L2
section
variable {σ : L2.St} {H : Hp} {Q : VK} {D : Ends} {v x y : V} {i j : Int} {a b : Str} {ta tb tc te : TE} {t u : TS} {K : PySem.W.Frag}
theorem rd_seq (h : t { D with nx := u D } σ H) : tSeq t u D σ H := h
theorem rd_var {n : Nat} (e : σ[n]? = some (some v)) (h : Q v H) : tVar n σ H Q := ⟨v, e, h⟩
theorem rd_c (h : Q v H) : tC v σ H Q := h
theorem rd_asg {g : TG} (h : te σ H fun x H1 => g x σ H1 D.nx) : tAsg te g D σ H := h
theorem rd_name {n : Nat} {Q : L2.St → Hp → Prop} (h : Q (σ.set n (some v)) H) : gName n v σ H Q := h
theorem rd_ret (h : te σ H D.rt) : tRet te D σ H := h
theorem rd_retN (h : D.rt .non H) : tRetN D σ H := h
theorem rd_drop (h : te σ H fun _ H1 => D.nx σ H1) : tDrop te D σ H := h
theorem rd_next (h : D.nx σ H) : tNext D σ H := h
theorem rd_if {c : TT} (h : c σ H fun b H1 => if b = true then t D σ H1 else u D σ H1) : tIfS c t u D σ H := h
theorem rd_break (h : D.bk σ H) : tBreak D σ H := h
theorem rd_cont (h : D.ct σ H) : tCont D σ H := h
theorem rd_op {r : R2} (h : ta σ H fun x H1 => tb σ H1 fun y H2 => r x y H2 Q) : tOp r ta tb σ H Q := h
theorem rd_test {Q : Bool → Hp → Prop} (h : te σ H fun x H1 => ∃ k, x = .bl k ∧ Q k H1) : tTest te σ H Q := h
theorem rd_B {Q : Bool → Hp → Prop} (h : te σ H fun x H1 => ∃ k, x = .bl k ∧ Q k H1) : tB te σ H Q := h
theorem rd_bl {Q : Bool → Prop} {k : Bool} (h : Q k) : ∃ c, V.bl k = .bl c ∧ Q c := ⟨k, rfl, h⟩
theorem rd_chain {r r' : R2} (h : ta σ H fun x H1 => tb σ H1 fun y H2 => r x y H2 fun z H3 => ∃ k, z = .bl k ∧ (if k = true then tc σ H3 fun w' H4 => r' y w' H4 Q else Q (.bl false) H3)) : tChain r r' ta tb tc σ H Q := h
theorem rd_nil {Q : List V → Hp → Prop} (h : Q [] H) : tNil σ H Q := h
theorem rd_cons {tr : TA} {Q : List V → Hp → Prop} (h : ta σ H fun x H1 => tr σ H1 fun xs H2 => Q (x :: xs) H2) : tCons ta tr σ H Q := h
theorem rd_cb {r : List V → Hp → VK → Prop} {tr : TA} (h : tr σ H fun vs H1 => r vs H1 Q) : tCB r tr σ H Q := h
theorem rd_c1 {sp : Sp} {E : XK} {tr : TA} (h : tr σ H fun vs H1 => sp vs H1 Q E) : tC1 sp E tr σ H Q := h
theorem rd_c2 {sp : Sp} {W : WX} {tr : TA} (h : tr σ H fun vs H1 => sp vs H1 Q fun cls d H' => W cls d σ H') : tC2 sp W tr σ H Q := h
theorem rd_lst {tr : TA} (h : tr σ H fun xs H1 => xs.length ≤ sizeLine ∧ nL xs H1 Q) : tLst tr σ H Q := h
theorem rd_tup {tr : TA} (h : tr σ H fun xs H1 => xs.length ≤ sizeLine ∧ nT xs H1 Q) : tTup tr σ H Q := h
theorem rd_sz {xs : List V} {P : Prop} (h : Nat.ble xs.length 1000 = true) (q : P) : xs.length ≤ sizeLine ∧ P :=
  ⟨Nat.le_trans (Nat.le_of_ble_eq_true h) (by decide), q⟩
theorem rd_addI (h : Q (.int (i + j)) H) : rAddU K (.int i) (.int j) H Q := h
theorem rd_subI (h : Q (.int (i - j)) H) : rSubU (.int i) (.int j) H Q := h
theorem rd_mulI (c : CMul i j ∨ CMulW i j) (h : Q (.int (i * j)) H) : rMulU (.int i) (.int j) H Q := ⟨c, h⟩
theorem rd_modI (c : 0 < j) (h : Q (.int (i % j)) H) : rModU (.int i) (.int j) H Q := ⟨c, h⟩
theorem rd_divI (c : 0 < j ∧ j < 1073741824) (h : Q (.int (i / j)) H) : rDivU (.int i) (.int j) H Q := ⟨c, h⟩
theorem rd_addS (c : a.length + b.length ≤ sizeLine) (h : Q (.str (a ++ b)) H) : rAddU K (.str a) (.str b) H Q := ⟨c, h⟩
theorem rd_ltI (h : Q (.bl (decide (i < j))) H) : rLtU (.int i) (.int j) H Q := h
theorem rd_ltS (h : Q (.bl (decide (a.cps.toList < b.cps.toList))) H) : rLtU (.str a) (.str b) H Q := h
theorem rd_leI (h : Q (.bl (decide (i ≤ j))) H) : rLeU (.int i) (.int j) H Q := h
theorem rd_gtI (h : Q (.bl (decide (j < i))) H) : rGtU (.int i) (.int j) H Q := h
theorem rd_geI (h : Q (.bl (decide (j ≤ i))) H) : rGeU (.int i) (.int j) H Q := h
theorem rd_eqI (h : Q (.bl (decide (i = j))) H) : rEqU K (.int i) (.int j) H Q := h
theorem rd_eqS (h : Q (.bl (decide (a = b))) H) : rEqU K (.str a) (.str b) H Q := h
theorem rd_neI (h : Q (.bl (!decide (i = j))) H) : rNeU K (.int i) (.int j) H Q := h
theorem rd_neS (h : Q (.bl (!decide (a = b))) H) : rNeU K (.str a) (.str b) H Q := h
theorem rd_is (h : Q (.bl (decide (x = .non))) H) : rIsU x .non H Q := h
theorem rd_isNot (h : Q (.bl (!decide (x = .non))) H) : rIsNotU x .non H Q := h
theorem rd_absI (h : Q (.int (i.natAbs : Int)) H) : rAbsU [.int i] H Q := h
theorem rd_maxI (h : Q (.int (max i j)) H) : rMaxU [.int i, .int j] H Q := h
theorem rd_minI (h : Q (.int (min i j)) H) : rMinU [.int i, .int j] H Q := h
theorem rd_intI (h : Q (.int i) H) : rIntU [.int i] H Q := h
theorem rd_intB {k : Bool} (h : Q (.int (bToI k)) H) : rIntU [.bl k] H Q := h
theorem rd_neg {g : Int → Int} (h : Q (.int (g i)) H) : rU (fun i => .int (g i)) (.int i) H Q := ⟨i, rfl, h⟩
theorem rd_sub {to ti : TE} {t : TSet} {Q : L2.St → Hp → Prop} (h : to σ H fun o H1 => ti σ H1 fun i H2 => t o i v H2 fun H3 => Q σ H3) : gSub to ti t v σ H Q := h
theorem rd_and {t u : TT} {Q : Bool → Hp → Prop} (h : t σ H fun c H1 => if c = true then u σ H1 Q else Q false H1) : tAnd t u σ H Q := h
theorem rd_or {t u : TT} {Q : Bool → Hp → Prop} (h : t σ H fun c H1 => if c = true then Q true H1 else u σ H1 Q) : tOr t u σ H Q := h
theorem rd_not {t : TT} {Q : Bool → Hp → Prop} (h : t σ H fun c H1 => Q (!c) H1) : tNot t σ H Q := h
theorem rd_andV (h : ta σ H fun x H1 => ∃ c, x = .bl c ∧ if c = true then tb σ H1 Q else Q (.bl false) H1) : tAndV ta tb σ H Q := h
theorem rd_orV (h : ta σ H fun x H1 => ∃ c, x = .bl c ∧ if c = true then Q (.bl true) H1 else tb σ H1 Q) : tOrV ta tb σ H Q := h
theorem rd_notV (h : ta σ H fun x H1 => ∃ c, x = .bl c ∧ Q (.bl (!c)) H1) : tNotV ta σ H Q := h
theorem rd_ifE {t : TT} (h : t σ H fun c H1 => if c = true then ta σ H1 Q else tb σ H1 Q) : tIf t ta tb σ H Q := h
theorem rd_T {A B : Prop} (h : A) : if true = true then A else B := by
  rw [if_pos rfl]
  exact h
theorem rd_F {A B : Prop} (h : B) : if false = true then A else B := by
  rw [if_neg Bool.false_ne_true]
  exact h
/-- a test that is known -/
theorem rd_yes {c : Prop} {_ : Decidable c} {A B : Prop} (hc : c) (h : A) : if decide c = true then A else B := by
  rw [if_pos (decide_eq_true hc)]
  exact h
theorem rd_no {c : Prop} {_ : Decidable c} {A B : Prop} (hc : ¬ c) (h : B) : if decide c = true then A else B := by
  rw [if_neg (by rw [decide_eq_false hc]; exact Bool.false_ne_true)]
  exact h
theorem rd_nyes {c : Prop} {_ : Decidable c} {A B : Prop} (hc : ¬ c) (h : A) : if (!decide c) = true then A else B := by
  rw [if_pos (by rw [decide_eq_false hc]; rfl)]
  exact h
theorem rd_nno {c : Prop} {_ : Decidable c} {A B : Prop} (hc : c) (h : B) : if (!decide c) = true then A else B := by
  rw [if_neg (by rw [decide_eq_true hc]; exact Bool.false_ne_true)]
  exact h
theorem rd_split {c : Prop} {_ : Decidable c} {A B : Prop} (h1 : c → A) (h2 : ¬ c → B) : if decide c = true then A else B := by
  by_cases h : c
  · exact rd_yes h (h1 h)
  · exact rd_no h (h2 h)
theorem rd_nsplit {c : Prop} {_ : Decidable c} {A B : Prop} (h1 : ¬ c → A) (h2 : c → B) : if (!decide c) = true then A else B := by
  by_cases h : c
  · exact rd_nno h (h2 h)
  · exact rd_nyes h (h1 h)
theorem rd_b {c : Bool} {A B : Prop} (h1 : c = true → A) (h2 : c = false → B) : if c = true then A else B := by
  cases c with
  | true => exact rd_T (h1 rfl)
  | false => exact rd_F (h2 rfl)
/-- an item of a list, a tuple -/
theorem rd_ixL {p : Addr} {xs : List V} (hs : SqL K H p xs) (hv : atI xs i = some v) (h : Q v H) : rIxU K (.ref p) (.int i) H Q := ⟨xs, .inl hs, v, hv, h⟩
theorem rd_ixT {p : Addr} {xs : List V} (hs : SqT K H p xs) (hv : atI xs i = some v) (h : Q v H) : rIxU K (.ref p) (.int i) H Q := ⟨xs, .inr hs, v, hv, h⟩
theorem rd_ixS {c : Nat} (hz : a.length ≤ 100000) (hv : atI a.cps.toList i = some c) (h : Q (.str ⟨#[c]⟩) H) : rIxU K (.str a) (.int i) H Q := ⟨Nat.le_trans hz (by decide), c, hv, h⟩
theorem rd_lenL {p : Addr} {xs : List V} (hs : SqL K H p xs) (h : Q (.int xs.length) H) : rLenU K [.ref p] H Q := .inl ⟨xs, .inl hs, h⟩
theorem rd_lenT {p : Addr} {xs : List V} (hs : SqT K H p xs) (h : Q (.int xs.length) H) : rLenU K [.ref p] H Q := .inl ⟨xs, .inr hs, h⟩
theorem rd_lenS (hz : a.length ≤ 100000) (h : Q (.int a.length) H) : rLenU K [.str a] H Q := ⟨Nat.le_trans hz (by decide), h⟩
theorem rd_lenD {p : Addr} {kvs : List (Key × V)} (hs : H p = some (.dK kvs)) (h : Q (.int kvs.length) H) : rLenU K [.ref p] H Q := .inr ⟨kvs, hs, h⟩
theorem rd_setL {p : Addr} {xs : List V} {n : Nat} {Q : Hp → Prop} (hs : H p = some (.lst xs)) (hi : ixN xs.length i = some n) (h : Q (upd H p (.lst (xs.set n v)))) : rSetL (.ref p) (.int i) v H Q := ⟨p, xs, i, n, rfl, rfl, hs, hi, h⟩
theorem rd_listT {p : Addr} {xs : List V} (hs : SqT K H p xs) (h : nL xs H Q) : rListU K [.ref p] H Q := .inl ⟨xs, .inr hs, h⟩
theorem rd_tupleL {p : Addr} {xs : List V} (hs : SqL K H p xs) (h : nT xs H Q) : rTupleU K [.ref p] H Q := .inl ⟨xs, hs, h⟩
theorem rd_slL {lo hi : Option Int} {p : Addr} {xs : List V} (hs : SqL K H p xs) (h : nL (cutV xs lo hi) H Q) : rSlU K (.ref p) lo hi H Q := .inl ⟨xs, hs, h⟩
theorem rd_sl {tl th : TO} {r : V → Option Int → Option Int → Hp → VK → Prop} (h : te σ H fun x H1 => tl σ H1 fun lo H2 => th σ H2 fun hi H3 => r x lo hi H3 Q) : tSl r te tl th σ H Q := h
theorem rd_noPart {Q : Option Int → Hp → Prop} (h : Q none H) : tNoPart σ H Q := h
theorem rd_part {Q : Option Int → Hp → Prop} (h : te σ H fun x H1 => ∃ i, x = .int i ∧ Q (some i) H1) : tPart te σ H Q := h
theorem rd_exI {Q : Int → Prop} (h : Q i) : ∃ k, V.int i = .int k ∧ Q k := ⟨i, rfl, h⟩
theorem rd_bm {T : String} {r : V → List V → Hp → VK → Prop} {tr : TA} (h : te σ H fun x H1 => tyV K T x H1 ∧ tr σ H1 fun xs H2 => r x xs H2 Q) : tBM K T r te tr σ H Q := h
theorem rd_bm0 {T : String} {r : V → List V → Hp → VK → Prop} (h : te σ H fun x H1 => tyV K T x H1 ∧ r x [] H1 Q) : tBM0 K T r te σ H Q := h
theorem rd_tyL {p : Addr} {xs : List V} {P : Prop} (hs : H p = some (.lst xs)) (h : P) : tyV K "list" (.ref p) H ∧ P := ⟨.inl ⟨rfl, xs, .inl (.inl hs)⟩, h⟩
theorem rd_append {p : Addr} {xs : List V} (hs : H p = some (.lst xs)) (hz : xs.length < 100000) (h : Q .non (upd H p (.lst (xs ++ [v])))) : rAppend (.ref p) [v] H Q :=
  ⟨p, xs, v, rfl, rfl, hs, Nat.lt_of_lt_of_le hz (by decide), h⟩
theorem mul_bI {i : Int} {b : Bool} : CMul i (bToI b) ∨ CMulW i (bToI b) := .inl (.inr (by cases b <;> decide))
theorem rd_powI (c : CPow i j) (h : Q (.int (i ^ j.toNat)) H) : rPowU (.int i) (.int j) H Q := ⟨c, h⟩
/-! heaps -/
theorem new_ne {p q : Addr} {o : HO} (h : upd H p o q = none) : q ≠ p := fun e => by
  rw [e, upd_same] at h
  cases h
theorem new_old {p q : Addr} {o : HO} (h : upd H p o q = none) : H q = none := by
  rw [upd_ne (new_ne h)] at h
  exact h
theorem at_upd {p q : Addr} {o u : HO} (n : q ≠ p) (h : H q = some u) : upd H p o q = some u := (upd_ne n).trans h
theorem no_upd {p q : Addr} {o : HO} (n : q ≠ p) (h : H q = none) : upd H p o q = none := (upd_ne n).trans h
/-- all that is tracked stays, but the object at p -/
def But (p : Addr) (H H' : Hp) : Prop := ∀ b o, b ≠ p → H b = some o → H' b = some o
theorem But.refl {p : Addr} : But p H H := fun _ _ _ h => h
theorem But.trans {p : Addr} {H1 H2 : Hp} (a : But p H H1) (b : But p H1 H2) : But p H H2 := fun c o n h => b c o n (a c o n h)
theorem But.of_same {p : Addr} {H1 : Hp} (a : Same H H1) : But p H H1 := fun c o _ h => a c o h
theorem But.upd {p : Addr} {o : HO} : But p H (upd H p o) := fun _ _ n h => at_upd n h
theorem But.new {p q : Addr} {o : HO} (h : H q = none) : But p H (L2.upd H q o) := fun _ _ _ e => at_upd (ne_of_none e h) e
theorem Same.new {q : Addr} {o : HO} (h : H q = none) : Same H (L2.upd H q o) := fun _ _ e => at_upd (ne_of_none e h) e
theorem But.free {p q : Addr} {H1 : Hp} (a : But p H H1) (n : q ≠ p) (h : H1 q = none) : H q = none := by
  cases e : H q with
  | none => rfl
  | some o =>
    rw [a q o n e] at h
    cases h
theorem new_of_same {q : Addr} {H1 : Hp} (a : Same H H1) (h : H1 q = none) : H q = none := a.free h
theorem Same.seqT {H' : Hp} {a : Addr} {xs : List V} (e : Same H H') (h : SqT K H a xs) : SqT K H' a xs := by
  rcases h with (h | ⟨o, h⟩) | h
  · exact .inl (.inl (e _ _ h))
  · exact .inl (.inr ⟨o, e _ _ h⟩)
  · exact .inr h
theorem But.seqT {p : Addr} {H' : Hp} {a : Addr} {xs : List V} (e : But p H H') (n : ∃ ys, H p = some (.lst ys)) (h : SqT K H a xs) : SqT K H' a xs := by
  obtain ⟨ys, hy⟩ := n
  rcases h with (h | ⟨o, h⟩) | h
  · exact .inl (.inl (e _ _ (ne_of h hy (by intro z; cases z)) h))
  · exact .inl (.inr ⟨o, e _ _ (ne_of h hy (by intro z; cases z)) h⟩)
  · exact .inr h
theorem rd_un {r : V → Hp → VK → Prop} (h : ta σ H fun x H1 => r x H1 Q) : tUn r ta σ H Q := h
end
local macro_rules | `(tactic| wtm_at "rd1") => `(tactic| first
  | with_reducible refine rd_seq ?_
  | ((with_reducible refine rd_var (v := ?vv) ?hv ?_); (case hv => exact rfl))
  | with_reducible refine rd_c ?_
  | with_reducible refine rd_cons ?_
  | with_reducible refine rd_nil ?_
  | with_reducible refine rd_op ?_
  | with_reducible refine rd_asg ?_
  | with_reducible refine rd_name ?_
  | with_reducible refine rd_c1 ?_
  | with_reducible refine rd_cb ?_
  | with_reducible refine rd_test ?_
  | with_reducible refine rd_B ?_
  | with_reducible refine rd_bl ?_
  | with_reducible refine rd_if ?_
  | with_reducible refine rd_ret ?_
  | with_reducible refine rd_drop ?_
  | with_reducible refine rd_next ?_
  | with_reducible refine rd_addI ?_
  | with_reducible refine rd_ltI ?_
  | with_reducible refine rd_eqI ?_
  | with_reducible refine rd_neI ?_
  | with_reducible refine rd_eqS ?_
  | with_reducible refine rd_neS ?_
  | with_reducible refine rd_gtI ?_
  | with_reducible refine rd_geI ?_
  | with_reducible refine rd_leI ?_
  | with_reducible refine rd_ltS ?_
  | with_reducible refine rd_subI ?_
  | ((with_reducible refine rd_modI ?hc ?_); (case hc => first | decide | omega))
  | ((with_reducible refine rd_mulI ?hc ?_); (case hc => first | exact mul_bI | exact .inl (.inr (by decide)) | exact .inl (.inl (by decide)) | exact .inl (.inr (by omega)) | exact .inl (.inl (by omega))))
  | ((with_reducible refine rd_divI ?hc ?_); (case hc => first | decide | omega))
  | ((with_reducible refine rd_powI ?hc ?_); (case hc => exact ⟨by decide, by decide, by decide⟩))
  | with_reducible refine rd_lst ?_
  | with_reducible refine rd_tup ?_
  | ((with_reducible refine rd_sz ?hv ?_); (case hv => exact rfl))
  | with_reducible refine rd_and ?_
  | with_reducible refine rd_or ?_
  | with_reducible refine rd_not ?_
  | with_reducible refine rd_andV ?_
  | with_reducible refine rd_orV ?_
  | with_reducible refine rd_notV ?_
  | with_reducible refine rd_ifE ?_
  | with_reducible refine rd_T ?_
  | with_reducible refine rd_F ?_
  | with_reducible refine rd_chain ?_
  | with_reducible refine rd_is ?_
  | with_reducible refine rd_isNot ?_
  | with_reducible refine rd_absI ?_
  | with_reducible refine rd_maxI ?_
  | with_reducible refine rd_minI ?_
  | with_reducible refine rd_intI ?_
  | with_reducible refine rd_intB ?_
  | with_reducible refine rd_sub ?_
  | with_reducible refine rd_sl ?_
  | with_reducible refine rd_noPart ?_
  | with_reducible refine rd_part ?_
  | with_reducible refine rd_exI ?_
  | with_reducible refine rd_bm ?_
  | with_reducible refine rd_bm0 ?_
  | with_reducible refine rd_un ?_
  | with_reducible refine rd_neg ?_
  | with_reducible refine rd_c2 ?_
  | with_reducible refine rd_retN ?_
  | with_reducible refine rd_break ?_
  | with_reducible refine rd_cont ?_)
local macro_rules | `(tactic| wtm_at "rd") => `(tactic| repeat wtm_at "rd1")
end U

/-! texts in order, names -/
namespace U
open PySem PySem.Spec PyProof.Rows L2
/-- the order of texts -/
def sLt (a b : Str) : Prop := a.cps.toList < b.cps.toList
instance (a b : Str) : Decidable (sLt a b) := inferInstanceAs (Decidable (a.cps.toList < b.cps.toList))
theorem str_ext {a b : Str} (h : a.cps.toList = b.cps.toList) : a = b := by
  obtain ⟨x⟩ := a
  obtain ⟨y⟩ := b
  have e : x = y := Array.toList_inj.mp h
  rw [e]
theorem sLt_irrefl (a : Str) : ¬ sLt a a := List.lt_irrefl _
theorem sLt_trans {a b c : Str} (h : sLt a b) (h' : sLt b c) : sLt a c := List.lt_trans h h'
theorem sLt_asymm {a b : Str} (h : sLt a b) : ¬ sLt b a := fun h' => sLt_irrefl a (sLt_trans h h')
theorem sLt_total {a b : Str} (h : ¬ sLt b a) (n : a ≠ b) : sLt a b := by
  have h1 : a.cps.toList ≤ b.cps.toList := List.not_lt.mp h
  rcases List.le_iff_lt_or_eq.mp h1 with z | z
  · exact z
  · exact absurd (str_ext z) n
theorem sLt_tri (a b : Str) : sLt a b ∨ a = b ∨ sLt b a := by
  by_cases h : sLt b a
  · exact .inr (.inr h)
  · by_cases e : a = b
    · exact .inr (.inl e)
    · exact .inl (sLt_total h e)
/-- strictly upwards -/
abbrev Asc (xs : List Str) : Prop := xs.Pairwise sLt
theorem asc_nodup {xs : List Str} (h : Asc xs) : xs.Nodup := by
  refine List.Pairwise.imp ?_ h
  intro a b z e
  subst e
  exact sLt_irrefl _ z
/-- two lists upwards with the same members are one -/
theorem asc_unique : ∀ {xs ys : List Str}, Asc xs → Asc ys → (∀ z, z ∈ xs ↔ z ∈ ys) → xs = ys
  | [], [], _, _, _ => rfl
  | [], y :: ys, _, _, h => absurd ((h y).mpr List.mem_cons_self) List.not_mem_nil
  | x :: xs, [], _, _, h => absurd ((h x).mp List.mem_cons_self) List.not_mem_nil
  | x :: xs, y :: ys, hx, hy, h => by
    rw [Asc, List.pairwise_cons] at hx hy
    have e : x = y := by
      rcases List.mem_cons.mp ((h x).mp List.mem_cons_self) with z | z
      · exact z
      · rcases List.mem_cons.mp ((h y).mpr List.mem_cons_self) with z2 | z2
        · exact z2.symm
        · exact absurd (hx.1 _ z2) (sLt_asymm (hy.1 _ z))
    subst e
    have t : xs = ys := asc_unique hx.2 hy.2 fun z => by
      constructor
      · intro hz
        rcases List.mem_cons.mp ((h z).mp (List.mem_cons_of_mem _ hz)) with e | e
        · subst e
          exact absurd (hx.1 _ hz) (sLt_irrefl _)
        · exact e
      · intro hz
        rcases List.mem_cons.mp ((h z).mpr (List.mem_cons_of_mem _ hz)) with e | e
        · subst e
          exact absurd (hy.1 _ hz) (sLt_irrefl _)
        · exact e
    rw [t]
theorem asc_of_sorted {xs : List Str} (h : xs.Pairwise fun a b => ¬ sLt b a) (n : xs.Nodup) : Asc xs := by
  have z : xs.Pairwise fun a b => ¬ sLt b a ∧ a ≠ b := List.Pairwise.and h n
  exact z.imp fun {a b} q => sLt_total q.1 q.2
/-- an edge's order -/
def eLt (a b : Str × Str) : Prop := sLt a.1 b.1 ∨ (a.1 = b.1 ∧ sLt a.2 b.2)
instance (a b : Str × Str) : Decidable (eLt a b) := inferInstanceAs (Decidable (_ ∨ _))
theorem eLt_irrefl (a : Str × Str) : ¬ eLt a a := fun h => h.elim (sLt_irrefl _) fun z => sLt_irrefl _ z.2
theorem eLt_total {a b : Str × Str} (h : ¬ eLt b a) (n : a ≠ b) : eLt a b := by
  rcases sLt_tri a.1 b.1 with z | z | z
  · exact .inl z
  · rcases sLt_tri a.2 b.2 with y | y | y
    · exact .inr ⟨z, y⟩
    · exact absurd (Prod.ext z y) n
    · exact absurd (.inr ⟨z.symm, y⟩) h
  · exact absurd (.inl z) h
abbrev AscE (xs : List (Str × Str)) : Prop := xs.Pairwise eLt
theorem ascE_nodup {xs : List (Str × Str)} (h : AscE xs) : xs.Nodup := by
  refine List.Pairwise.imp ?_ h
  intro a b z e
  subst e
  exact eLt_irrefl _ z
theorem ascE_of_sorted {xs : List (Str × Str)} (h : xs.Pairwise fun a b => ¬ eLt b a) (n : xs.Nodup) : AscE xs := by
  have z : xs.Pairwise fun a b => ¬ eLt b a ∧ a ≠ b := List.Pairwise.and h n
  exact z.imp fun {a b} q => eLt_total q.1 q.2

section
variable {K : PySem.W.Frag} {H : Hp} {Q : VK} {p : Addr}
theorem perm_of_map {α β : Type} {f : α → β} : ∀ {l : List β} {xs : List α}, l.Perm (xs.map f) → ∃ ys : List α, ys.Perm xs ∧ l = ys.map f := by
  intro l xs h
  generalize hm : xs.map f = m at h
  induction h generalizing xs with
  | nil =>
    cases xs with
    | nil => exact ⟨[], .nil, rfl⟩
    | cons _ _ => cases hm
  | cons x hp ih =>
    cases xs with
    | nil => cases hm
    | cons a as =>
      injection hm with h1 h2
      obtain ⟨ys, py, e⟩ := ih h2
      exact ⟨a :: ys, py.cons a, by rw [e, List.map_cons, h1]⟩
  | swap x y l =>
    cases xs with
    | nil => cases hm
    | cons a as =>
      cases as with
      | nil => cases hm
      | cons b bs =>
        injection hm with h1 h2
        injection h2 with h2 h3
        exact ⟨b :: a :: bs, .swap a b bs, by rw [List.map_cons, List.map_cons, h1, h2, h3]⟩
  | trans _ _ ih1 ih2 =>
    obtain ⟨ys, py, e⟩ := ih2 hm
    obtain ⟨zs, pz, e'⟩ := ih1 e.symm
    exact ⟨zs, pz.trans py, e'⟩
/-- sorted(a list of texts) -/
theorem rd_sortS {xs : List Str} (hs : SqL K H p (xs.map V.str)) (hl : xs.length ≤ 100000) (k : ∀ ys : List Str, ys.Perm xs → ys.Pairwise (fun a b => ¬ sLt b a) → nL (ys.map V.str) H Q) : rSortU K [.ref p] H Q := by
  refine ⟨xs.map fun x => (V.str x, PyData.str x), ?_, ⟨?_, ?_, ?_, ?_, ?_⟩, ?_⟩
  · rw [List.map_map]
    exact hs
  · intro b hb
    obtain ⟨x, _, rfl⟩ := List.mem_map.mp hb
    exact .str x
  · rw [List.map_map]
    exact PySem.W.AllAlike.of (enc := PyData.str) fun a b => by simp [PySem.W.alike]
  · rw [List.map_map]
    exact PySem.W.Sortable.others (enc := PyData.str) fun b => ⟨by simp, by simp⟩
  · intro b hb
    obtain ⟨x, _, rfl⟩ := List.mem_map.mp hb
    simp [PyData.depth]
  · rw [List.length_map]
    omega
  · intro cs pc sc
    obtain ⟨ys, py, rfl⟩ := perm_of_map pc
    rw [List.map_map]
    refine k ys py ?_
    rw [List.pairwise_map] at sc
    refine sc.imp fun {a b} z h => ?_
    have z' : PySem.W.dataLt (PyData.str b) (PyData.str a) = false := z
    rw [PySem.W.dataLt_str] at z'
    exact of_decide_eq_false z' h
/-- sorted(a list of pairs of texts): e is the pair's place, then the two -/
theorem rd_sortE {xs : List (Addr × Str × Str)} (hs : SqL K H p (xs.map fun e => V.ref e.1)) (ht : ∀ e ∈ xs, SqT K H e.1 [.str e.2.1, .str e.2.2]) (hl : xs.length ≤ 100000)
    (k : ∀ ys : List (Addr × Str × Str), ys.Perm xs → ys.Pairwise (fun a b => ¬ eLt b.2 a.2) → nL (ys.map fun e => V.ref e.1) H Q) : rSortU K [.ref p] H Q := by
  refine ⟨xs.map fun e => (V.ref e.1, PyData.tuple [.str e.2.1, .str e.2.2]), ?_, ⟨?_, ?_, ?_, ?_, ?_⟩, ?_⟩
  · rw [List.map_map]
    exact hs
  · intro b hb
    obtain ⟨x, hx, rfl⟩ := List.mem_map.mp hb
    exact .tup (ht x hx) (.cons (.str _) (.cons (.str _) .nil))
  · rw [List.map_map]
    exact PySem.W.AllAlike.of (enc := fun e : Addr × Str × Str => PyData.tuple [.str e.2.1, .str e.2.2]) fun a b => by simp [PySem.W.alike, PySem.W.alikeAll]
  · rw [List.map_map]
    exact PySem.W.Sortable.tuples (enc := fun e : Addr × Str × Str => PyData.tuple [.str e.2.1, .str e.2.2]) fun b => ⟨_, _, rfl⟩
  · intro b hb
    obtain ⟨x, _, rfl⟩ := List.mem_map.mp hb
    simp [PyData.depth, PyData.depthAll]
  · rw [List.length_map]
    omega
  · intro cs pc sc
    obtain ⟨ys, py, rfl⟩ := perm_of_map pc
    rw [List.map_map]
    refine k ys py ?_
    rw [List.pairwise_map] at sc
    refine sc.imp fun {a b} z h => ?_
    have z' : PySem.W.dataLt (PyData.tuple [.str b.2.1, .str b.2.2]) (PyData.tuple [.str a.2.1, .str a.2.2]) = false := z
    rw [PySem.W.dataLt_pair (by simp [PySem.W.alike]) (by simp [PySem.W.alike]), PySem.W.dataLt_str, PySem.W.dataLt_str] at z'
    simp only [PyData.eqv, beq_iff_eq] at z'
    rcases h with h | ⟨e, h⟩
    · have n : ¬ b.2.1 = a.2.1 := fun e => sLt_irrefl _ (by rw [e] at h; exact h)
      rw [if_neg n] at z'
      exact of_decide_eq_false z' h
    · rw [if_pos e] at z'
      have n : ¬ b.2.2 = a.2.2 := fun e => sLt_irrefl _ (by rw [e] at h; exact h)
      rw [if_neg n] at z'
      exact of_decide_eq_false z' h
end
end U

/-! names as the laws draw them -/
namespace U
open PySem PySem.Spec PyProof.Rows L2
/-- 1 to 8 small letters -/
structure IsName (z : Str) : Prop where
  lo : 1 ≤ z.length
  hi : z.length ≤ 8
  ch : ∀ c ∈ z.cps.toList, 97 ≤ c ∧ c ≤ 122
theorem letters_at {i : Int} (h0 : 0 ≤ i) (h1 : i < 26) : atI (Str.ofString "abcdefghijklmnopqrstuvwxyz").cps.toList i = some (97 + i.toNat) := by
  obtain ⟨n, rfl⟩ : ∃ n : Nat, i = (n : Int) := ⟨i.toNat, by omega⟩
  have all : ∀ n : Fin 26, (Str.ofString "abcdefghijklmnopqrstuvwxyz").cps.toList[(n : Nat)]? = some (97 + (n : Nat)) := by decide +kernel
  have hn : n < 26 := by omega
  rw [Int.toNat_natCast]
  exact atI_nat (all ⟨n, hn⟩)
theorem letters_len : (Str.ofString "abcdefghijklmnopqrstuvwxyz").length ≤ 100000 := by decide +kernel
theorem pick4 {a b c d r : Int} (h0 : 0 ≤ r) (h1 : r < 4) : ∃ v, atI [V.int a, .int b, .int c, .int d] r = some (.int v) ∧ (v = a ∨ v = b ∨ v = c ∨ v = d) := by
  have : r = 0 ∨ r = 1 ∨ r = 2 ∨ r = 3 := by omega
  rcases this with rfl | rfl | rfl | rfl
  · exact ⟨a, rfl, .inl rfl⟩
  · exact ⟨b, rfl, .inr (.inl rfl)⟩
  · exact ⟨c, rfl, .inr (.inr (.inl rfl))⟩
  · exact ⟨d, rfl, .inr (.inr (.inr rfl))⟩
/-- names, strictly upwards -/
structure Names (ys : List Str) : Prop where
  asc : Asc ys
  ok : ∀ y ∈ ys, IsName y
/-- names, each once, in any order -/
structure NamesU (ys : List Str) : Prop where
  nd : ys.Nodup
  ok : ∀ y ∈ ys, IsName y
theorem Names.u {ys : List Str} (h : Names ys) : NamesU ys := ⟨asc_nodup h.asc, h.ok⟩
theorem NamesU.perm {xs ys : List Str} (h : NamesU xs) (p : ys.Perm xs) : NamesU ys := ⟨p.nodup_iff.mpr h.nd, fun y hy => h.ok y (p.mem_iff.mp hy)⟩
/-! slices of a text -/
end U

/-! loops, dictionaries, unpacking: their readings by steps -/
namespace U
open PySem PySem.Spec PyProof.Rows L2
/-- what a loop over J asks -/
def ForB (J : It) (g : TG) (tb : TS) (D : Ends) (σ : L2.St) (H : Hp) : Prop := ∃ W : Nat → Nat → L2.St → Hp → Prop, (∃ m, W 0 m σ H) ∧ ∀ i m σ H, W i m σ H →
  (J.stop i H ∧ D.nx σ H) ∨ (J.go i H ∧ ∃ N : L2.St → Hp → Prop, (∀ σ' H', N σ' H' → ∃ m', m' < m ∧ W (i + 1) m' σ' H') ∧ ∀ x H', J.yld i H x H' → g x σ H' fun σ2 H2 => tb { D with nx := N, ct := N, bk := D.nx } σ2 H2)
def LcB (J : It) (g : TG) (tt : TT) (te : TE) (vs : List Nat) (σ : L2.St) (H1 : Hp) (D : Addr) (Qd : Hp → Prop) : Prop := ∃ W : Nat → Nat → Hp → Prop, (∃ m, W 0 m (upd H1 D (.lst []))) ∧ ∀ i m H, W i m H →
  (J.stop i H ∧ Qd H) ∨ (J.go i H ∧ ∃ Nx : Hp → Prop, (∀ H', Nx H' → ∃ m', m' < m ∧ W (i + 1) m' H') ∧ ∀ x H', J.yld i H x H' → g x (wipe σ vs) H' fun σ2 H2 => wipe σ2 vs = wipe σ vs ∧ tt σ2 H2 fun b H3 =>
    if b = true then te σ2 H3 fun y H4 => ∃ acc, H4 D = some (.lst acc) ∧ acc.length < sizeLine ∧ Nx (upd H4 D (.lst (acc ++ [y]))) else Nx H3)
section
variable {σ : L2.St} {H : Hp} {Q : VK} {D : Ends} {v x y : V} {i j : Int} {ta tb tc te td ty tv : TE} {t u : TS} {K : PySem.W.Frag} {g : TG} {wi : TI} {R : It → Hp → Prop} {tr : TA}
theorem rd_for (h : wi σ H fun J H1 => ForB J g t D σ H1) : tFor wi g t D σ H := h
theorem rd_rng1 (h : tr σ H fun vs H1 => ∃ j : Int, vs = [.int j] ∧ -(2 ^ 62) ≤ j ∧ j < 2 ^ 62 ∧ R (Itr 0 j.toNat) H1) : iRng1 tr σ H R := h
theorem rd_rng2 (h : tr σ H fun vs H1 => ∃ i j : Int, vs = [.int i, .int j] ∧ (-(2 ^ 62) ≤ i ∧ i < 2 ^ 62 ∧ -(2 ^ 62) ≤ j ∧ j < 2 ^ 62) ∧ R (Itr i (j - i).toNat) H1) : iRng2 tr σ H R := h
theorem rd_iList (h : te σ H fun x H1 => ∃ a, x = .ref a ∧ (∃ xs, SqL K H1 a xs) ∧ R (Itl K a) H1) : iList K te σ H R := h
theorem rd_iTup (h : te σ H fun x H1 => ∃ a, x = .ref a ∧ (∃ xs, SqT K H1 a xs) ∧ R (Itt K a) H1) : iTup K te σ H R := h
theorem rd_iEnum (h : tr σ H fun vs H1 => ∃ a xs, vs = [.ref a] ∧ SqL K H1 a xs ∧ R (Ite K a) H1) : iEnum K tr σ H R := h
theorem rd_forL {p : Addr} {xs : List V} {R : Addr → Prop} (hs : SqL K H p xs) (h : R p) : ∃ a, V.ref p = .ref a ∧ (∃ xs, SqL K H a xs) ∧ R a := ⟨p, rfl, ⟨xs, hs⟩, h⟩
theorem rd_forT {p : Addr} {xs : List V} {R : Addr → Prop} (hs : SqT K H p xs) (h : R p) : ∃ a, V.ref p = .ref a ∧ (∃ xs, SqT K H a xs) ∧ R a := ⟨p, rfl, ⟨xs, hs⟩, h⟩
theorem rd_forR {R : Int → Prop} (h0 : -(2 ^ 62) ≤ j) (h1 : j < 2 ^ 62) (h : R j) : ∃ k : Int, [V.int j] = [.int k] ∧ -(2 ^ 62) ≤ k ∧ k < 2 ^ 62 ∧ R k := ⟨j, rfl, h0, h1, h⟩
theorem rd_forE {p : Addr} {xs : List V} {R : Addr → Prop} (hs : SqL K H p xs) (h : R p) : ∃ a xs, [V.ref p] = [.ref a] ∧ SqL K H a xs ∧ R a := ⟨p, xs, rfl, hs, h⟩
theorem turnsR {lo : Int} {n : Nat} (Pv : Nat → L2.St → Hp → Prop) (h0 : Pv 0 σ H) (hs : ∀ i σ H, i < n → Pv i σ H → g (.int (lo + i)) σ H fun σ2 H2 => t { D with nx := Pv (i + 1), ct := Pv (i + 1), bk := D.nx } σ2 H2)
    (hd : ∀ σ H, Pv n σ H → D.nx σ H) : ForB (Itr lo n) g t D σ H := for_range Pv h0 hs hd
theorem turnsL {a : Addr} {xs : List V} (Pv : Nat → L2.St → Hp → Prop) (h0 : Pv 0 σ H) (hl : ∀ i σ H, i ≤ xs.length → Pv i σ H → SqL K H a xs)
    (hs : ∀ i x σ H, xs[i]? = some x → Pv i σ H → g x σ H fun σ2 H2 => t { D with nx := Pv (i + 1), ct := Pv (i + 1), bk := D.nx } σ2 H2) (hd : ∀ σ H, Pv xs.length σ H → D.nx σ H) : ForB (Itl K a) g t D σ H := for_list Pv h0 hl hs hd
theorem turnsT {a : Addr} {xs : List V} (Pv : Nat → L2.St → Hp → Prop) (h0 : Pv 0 σ H) (hl : ∀ i σ H, i ≤ xs.length → Pv i σ H → SqT K H a xs)
    (hs : ∀ i x σ H, xs[i]? = some x → Pv i σ H → g x σ H fun σ2 H2 => t { D with nx := Pv (i + 1), ct := Pv (i + 1), bk := D.nx } σ2 H2) (hd : ∀ σ H, Pv xs.length σ H → D.nx σ H) : ForB (Itt K a) g t D σ H := for_tup Pv h0 hl hs hd
theorem turnsW {J : It} {n : Nat} {G : Hp → Prop} {Y : Nat → Hp → V → Hp → Prop} (w : Walk J n G Y) (Pv : Nat → L2.St → Hp → Prop) (h0 : Pv 0 σ H) (hG : ∀ i σ H, i ≤ n → Pv i σ H → G H)
    (hs : ∀ i x σ H H', i < n → Pv i σ H → Y i H x H' → g x σ H' fun σ2 H2 => t { D with nx := Pv (i + 1), ct := Pv (i + 1), bk := D.nx } σ2 H2) (hd : ∀ σ H, Pv n σ H → D.nx σ H) : ForB J g t D σ H := for_it w Pv h0 hG hs hd
theorem rd_lc {tt : TT} {vs : List Nat} (h : wi σ H fun J H1 => ∀ D, H1 D = none → LcB J g tt te vs σ H1 D fun H2 => Q (.ref D) H2) : tLc wi g tt te vs σ H Q := h
theorem lcT {a : Addr} {xs : List V} {tt : TT} {vs : List Nat} {D : Addr} {Qd : Hp → Prop} (Pv : Nat → Hp → Prop) (h0 : Pv 0 (upd H D (.lst []))) (hl : ∀ i H, i ≤ xs.length → Pv i H → SqT K H a xs)
    (hs : ∀ i x H, xs[i]? = some x → Pv i H → g x (wipe σ vs) H fun σ2 H2 => wipe σ2 vs = wipe σ vs ∧ tt σ2 H2 fun b H3 =>
      if b = true then te σ2 H3 fun y H4 => ∃ acc, H4 D = some (.lst acc) ∧ acc.length < sizeLine ∧ Pv (i + 1) (upd H4 D (.lst (acc ++ [y]))) else Pv (i + 1) H3) (hd : ∀ H, Pv xs.length H → Qd H) : LcB (Itt K a) g tt te vs σ H D Qd := lc_tup Pv h0 hl hs hd
theorem lcL {a : Addr} {xs : List V} {tt : TT} {vs : List Nat} {D : Addr} {Qd : Hp → Prop} (Pv : Nat → Hp → Prop) (h0 : Pv 0 (upd H D (.lst []))) (hl : ∀ i H, i ≤ xs.length → Pv i H → SqL K H a xs)
    (hs : ∀ i x H, xs[i]? = some x → Pv i H → g x (wipe σ vs) H fun σ2 H2 => wipe σ2 vs = wipe σ vs ∧ tt σ2 H2 fun b H3 =>
      if b = true then te σ2 H3 fun y H4 => ∃ acc, H4 D = some (.lst acc) ∧ acc.length < sizeLine ∧ Pv (i + 1) (upd H4 D (.lst (acc ++ [y]))) else Pv (i + 1) H3) (hd : ∀ H, Pv xs.length H → Qd H) : LcB (Itl K a) g tt te vs σ H D Qd := lc_list Pv h0 hl hs hd
theorem lcR {lo : Int} {n : Nat} {tt : TT} {vs : List Nat} {D : Addr} {Qd : Hp → Prop} (Pv : Nat → Hp → Prop) (h0 : Pv 0 (upd H D (.lst [])))
    (hs : ∀ i H, i < n → Pv i H → g (.int (lo + i)) (wipe σ vs) H fun σ2 H2 => wipe σ2 vs = wipe σ vs ∧ tt σ2 H2 fun b H3 =>
      if b = true then te σ2 H3 fun y H4 => ∃ acc, H4 D = some (.lst acc) ∧ acc.length < sizeLine ∧ Pv (i + 1) (upd H4 D (.lst (acc ++ [y]))) else Pv (i + 1) H3) (hd : ∀ H, Pv n H → Qd H) : LcB (Itr lo n) g tt te vs σ H D Qd := lc_range Pv h0 hs hd
/-- unpacking -/
theorem rd_unp {n : Nat} {ts : TGs} {p : Addr} {xs : List V} {Q : L2.St → Hp → Prop} (hs : SqT K H p xs) (hl : xs.length = n) (h : ts xs σ H Q) : gTup K n ts (.ref p) σ H Q := ⟨p, xs, rfl, hs, hl, h⟩
theorem rd_gcons {tg : TG} {u : TGs} {vr : List V} {Q : L2.St → Hp → Prop} (h : tg v σ H fun σ1 H1 => u vr σ1 H1 Q) : gCons tg u (v :: vr) σ H Q := ⟨v, vr, rfl, h⟩
theorem rd_gnil {Q : L2.St → Hp → Prop} (h : Q σ H) : gNil [] σ H Q := ⟨rfl, h⟩
/-- dictionaries -/
theorem rd_dget (h : td σ H fun x H1 => ty σ H1 fun y H2 => ∃ a v, x = .ref a ∧ DGet H2 a y (some v) ∧ Q v H2) : tDGet td ty σ H Q := h
theorem rd_dat {p : Addr} {kvs : List (Key × V)} {k : Key} (hs : Rd H p (.dK kvs)) (hv : valV kvs k = some v) {R : V → Prop} (hy : y = kV k) (h : R v) : ∃ a v, V.ref p = .ref a ∧ DGet H a y (some v) ∧ R v := ⟨p, v, rfl, .inl ⟨kvs, k, hs, hy, hv.symm⟩, h⟩
theorem rd_dput (h : tv σ H fun v H1 => td σ H1 fun x H2 => ty σ H2 fun y H3 => ∃ a H4, x = .ref a ∧ DPut H3 a y v H4 ∧ D.nx σ H4) : sDPut td ty tv D σ H := h
end
end U

/-! lists of texts as data -/
namespace U
open PySem PySem.Spec PyProof.Rows L2
theorem IsName.sok {z : Str} (h : IsName z) : PyData.strOk z = true := by
  unfold PyData.strOk
  rw [Array.all_eq_true_iff_forall_mem]
  intro x hx
  have := h.ch x (by simpa using hx)
  rw [decide_eq_true_eq]
  omega
section
variable {K : PySem.W.Frag} {H : Hp} {Q : VK} {p q : Addr}
theorem dp_strs : ∀ (xs : List Str), DpAll K H (xs.map V.str) (xs.map PyData.str)
  | [] => .nil
  | x :: xs => .cons (.str x) (dp_strs xs)
theorem can_strs : ∀ {xs : List Str}, (∀ x ∈ xs, PyData.strOk x = true) → PyData.canLayAll0 (xs.map PyData.str) = true
  | [], _ => by simp [PyData.canLayAll0]
  | x :: xs, h => by
    rw [List.map_cons, PyData.canLayAll0, PyData.canLay0, h x List.mem_cons_self, can_strs fun y hy => h y (List.mem_cons_of_mem _ hy)]
    rfl
theorem dep_strs : ∀ {xs : List Str}, PyData.depthAll (xs.map PyData.str) = 0
  | [] => by simp [PyData.depthAll]
  | x :: xs => by
    rw [List.map_cons, PyData.depthAll, dep_strs, PyData.depth]
    rfl
end
end U

/-! graphs and states as the laws draw them -/
namespace U
open PySem PySem.Spec PyProof.Rows L2
/-- the two names, the lower first -/
def eOf (a b : Str) : Str × Str := if sLt a b then (a, b) else (b, a)
theorem eOf_cases (a b : Str) : eOf a b = (a, b) ∨ eOf a b = (b, a) := by
  unfold eOf
  split
  · exact .inl rfl
  · exact .inr rfl
theorem eOf_lt {a b : Str} (n : a ≠ b) : sLt (eOf a b).1 (eOf a b).2 := by
  unfold eOf
  split
  · assumption
  · rename_i h
    exact sLt_total h (Ne.symm n)
theorem eOf_inj {a b c d : Str} (h : eOf a b = eOf c d) : (a = c ∧ b = d) ∨ (a = d ∧ b = c) := by
  rcases eOf_cases a b with e | e <;> rcases eOf_cases c d with e' | e' <;> rw [e, e'] at h <;> injection h with h1 h2
  · exact .inl ⟨h1, h2⟩
  · exact .inr ⟨h1, h2⟩
  · exact .inr ⟨h2, h1⟩
  · exact .inl ⟨h2, h1⟩
/-- the state's pairs -/
abbrev kvsOf (ws : List (Str × Int)) : List (Key × V) := ws.map fun p => (Sum.inr p.1, V.int p.2)
/-- the number of the node n -/
def numOf (ws : List (Str × Int)) (n : Str) : Int := (ws.lookup n).getD 0
theorem val_kvs : ∀ {ws : List (Str × Int)} {n : Str}, n ∈ ws.map (·.1) → valV (kvsOf ws) (.inr n) = some (.int (numOf ws n))
  | p :: ws, n, h => by
    by_cases e : n = p.1
    · subst e
      rw [kvsOf, List.map_cons, valV_pos rfl]
      unfold numOf
      rw [List.lookup_cons_self]
      rfl
    · have e' : ¬ (Sum.inr p.1 : Key) = Sum.inr n := fun z => e (Sum.inr.inj z).symm
      rw [kvsOf, List.map_cons, valV_neg e']
      have : n ∈ ws.map (·.1) := by
        rcases List.mem_cons.mp h with z | z
        · exact absurd z e
        · exact z
      have r := val_kvs this
      rw [kvsOf] at r
      rw [r]
      unfold numOf
      rw [List.lookup_cons, show (n == p.1) = false from beq_eq_false_iff_ne.mpr e]
theorem num_mem : ∀ {ws : List (Str × Int)} {n : Str}, n ∈ ws.map (·.1) → (n, numOf ws n) ∈ ws
  | p :: ws, n, h => by
    unfold numOf
    rw [List.lookup_cons]
    by_cases e : n = p.1
    · rw [show (n == p.1) = true from beq_iff_eq.mpr e]
      subst e
      exact List.mem_cons_self
    · rw [show (n == p.1) = false from beq_eq_false_iff_ne.mpr e]
      have : n ∈ ws.map (·.1) := by
        rcases List.mem_cons.mp h with z | z
        · exact absurd z e
        · exact z
      exact List.mem_cons_of_mem _ (num_mem this)
/-- a state: each name once, in the order ord, a number of 0, 1, 2 -/
structure StOk (ord : List Str) (ws : List (Str × Int)) : Prop where
  key : ws.map (·.1) = ord
  num : ∀ p ∈ ws, 0 ≤ p.2 ∧ p.2 < 3
theorem StOk.at {ord : List Str} {ws : List (Str × Int)} (h : StOk ord ws) {n : Str} (hn : n ∈ ord) : 0 ≤ numOf ws n ∧ numOf ws n < 3 := h.num _ (num_mem (by rw [h.key]; exact hn))
theorem StOk.val {ord : List Str} {ws : List (Str × Int)} (h : StOk ord ws) {n : Str} (hn : n ∈ ord) : valV (kvsOf ws) (.inr n) = some (.int (numOf ws n)) := val_kvs (by rw [h.key]; exact hn)
/-- the edges as they are found: at turn i, j -/
structure EdgesIn (ord : List Str) (f : Str → Int) (i j : Nat) (es : List (Addr × Str × Str)) : Prop where
  nd : (es.map (·.2)).Nodup
  of : ∀ e ∈ es, ∃ i' j', ∃ (hi : i' < ord.length) (hj : j' < ord.length), j' < i' ∧ (i' < i ∨ (i' = i ∧ j' < j)) ∧ e.2 = eOf ord[i'] ord[j'] ∧ f ord[i'] ≠ f ord[j']
theorem EdgesIn.step {ord : List Str} {f : Str → Int} {i j i2 j2 : Nat} {es : List (Addr × Str × Str)} (h : EdgesIn ord f i j es) (c : i < i2 ∨ (i = i2 ∧ j ≤ j2)) : EdgesIn ord f i2 j2 es :=
  ⟨h.nd, fun e he => by
    obtain ⟨i', j', hi, hj, h1, h2, h3⟩ := h.of e he
    exact ⟨i', j', hi, hj, h1, by omega, h3⟩⟩
theorem EdgesIn.add {ord : List Str} {f : Str → Int} {i j : Nat} {es : List (Addr × Str × Str)} {t : Addr} (h : EdgesIn ord f i j es) (nd : ord.Nodup) (hij : j < i) (hi : i < ord.length) (hj : j < ord.length) (hf : f ord[i] ≠ f ord[j]) :
    EdgesIn ord f i (j + 1) (es ++ [(t, eOf ord[i] ord[j])]) := by
  have inj : ∀ {a b : Nat} (ha : a < ord.length) (hb : b < ord.length), ord[a] = ord[b] → a = b := by
    intro a b ha hb e
    have z := List.pairwise_iff_getElem.mp (List.nodup_iff_pairwise_ne.mp nd)
    rcases Nat.lt_trichotomy a b with h | h | h
    · exact absurd e (z a b ha hb h)
    · exact h
    · exact absurd e.symm (z b a hb ha h)
  refine ⟨?_, ?_⟩
  · rw [List.map_append, List.nodup_append]
    refine ⟨h.nd, by simp, ?_⟩
    intro x hx y hy e
    obtain ⟨z, hz, rfl⟩ := List.mem_map.mp hx
    have : y = eOf ord[i] ord[j] := by simpa using hy
    subst this
    obtain ⟨i', j', hi', hj', h1, h2, h3, _⟩ := h.of z hz
    rw [h3] at e
    rcases eOf_inj e with ⟨e1, e2⟩ | ⟨e1, e2⟩
    · have := inj _ _ e1
      have := inj _ _ e2
      omega
    · have := inj _ _ e1
      have := inj _ _ e2
      omega
  · intro e he
    rcases List.mem_append.mp he with he | he
    · obtain ⟨i', j', hi', hj', h1, h2, h3⟩ := h.of e he
      exact ⟨i', j', hi', hj', h1, by omega, h3⟩
    · have : e = (t, eOf ord[i] ord[j]) := by simpa using he
      subst this
      exact ⟨i, j, hi, hj, hij, by omega, rfl, hf⟩
/-- a graph: names upwards, edges upwards, each with its lower name first -/
structure GrOk (ns : List Str) (es : List (Str × Str)) : Prop where
  names : Names ns
  asc : AscE es
  lt : ∀ e ∈ es, sLt e.1 e.2
  mem : ∀ e ∈ es, e.1 ∈ ns ∧ e.2 ∈ ns
/-- the graph stands at g -/
structure GrAt (H : Hp) (g n e : Addr) (ns : List Str) (es : List (Addr × Str × Str)) : Prop where
  top : H g = some (.tup [.ref n, .ref e])
  nodes : H n = some (.tup (ns.map V.str))
  edges : H e = some (.tup (es.map fun x => V.ref x.1))
  pairs : ∀ x ∈ es, H x.1 = some (.tup [.str x.2.1, .str x.2.2])
theorem cutV_to {xs : List V} {i : Nat} (h : i ≤ xs.length) : cutV xs none (some (i : Int)) = xs.take i := by
  unfold cutV HT.sIx
  simp only [Nat.sub_zero, List.drop_zero]
  rw [if_neg (by omega), Int.toNat_natCast, Nat.min_eq_left h]
theorem map_at {α : Type} {f : α → V} {xs : List α} {i : Nat} {x : V} (h : (xs.map f)[i]? = some x) : ∃ hi : i < xs.length, x = f xs[i] := by
  rw [List.getElem?_map] at h
  by_cases hi : i < xs.length
  · rw [List.getElem?_eq_getElem hi] at h
    exact ⟨hi, (Option.some.inj h).symm⟩
  · rw [List.getElem?_eq_none (by omega)] at h
    cases h
theorem StOk.nil : StOk [] [] := ⟨rfl, fun _ h => nomatch h⟩
theorem StOk.add {ord : List Str} {ws : List (Str × Int)} {i : Nat} {v : Int} (h : StOk (ord.take i) ws) (hi : i < ord.length) (h0 : 0 ≤ v) (h1 : v < 3) : StOk (ord.take (i + 1)) (ws ++ [(ord[i], v)]) := by
  refine ⟨?_, ?_⟩
  · rw [List.map_append, h.key, List.take_succ, List.getElem?_eq_getElem hi]
    rfl
  · intro p hp
    rcases List.mem_append.mp hp with hp | hp
    · exact h.num p hp
    · have : p = (ord[i], v) := by simpa using hp
      subst this
      exact ⟨h0, h1⟩
theorem StOk.not {ord : List Str} {ws : List (Str × Int)} {i : Nat} (h : StOk (ord.take i) ws) (nd : ord.Nodup) (hi : i < ord.length) : ord[i] ∉ ws.map (·.1) := by
  rw [h.key]
  intro hm
  obtain ⟨j, hj, e⟩ := List.mem_iff_getElem.mp hm
  rw [List.length_take] at hj
  have e' : ord[j] = ord[i] := by rw [← e, List.getElem_take]
  have z := List.pairwise_iff_getElem.mp (List.nodup_iff_pairwise_ne.mp nd)
  exact z j i (by omega) hi (by omega) e'
section
variable {K : PySem.W.Frag} {H : Hp} {Q : VK} {p q : Addr} {σ : L2.St}
theorem rd_dnew (h : ∀ d, H d = none → Q (.ref d) (upd H d (.dK []))) : tDNewK σ H Q := h
theorem rd_dset {kvs : List (Key × V)} {k : Key} {y v : V} {R : Hp → Prop} (hs : H p = some (.dK kvs)) (hy : y = kV k) (hl : kvs.length < 100000) (h : R (upd H p (.dK (putK kvs k v)))) :
    ∃ a H4, V.ref p = .ref a ∧ DPut H a y v H4 ∧ R H4 := ⟨p, _, rfl, .inl ⟨kvs, k, hs, hy, Nat.lt_of_lt_of_le hl (by decide), rfl⟩, h⟩
end
end U

/-! lifts: the plain laws -/
namespace U
open PySem PySem.Spec PyProof.Rows L2
/-- the dict of numbers over ns, in that order -/
abbrev kvF (ns : List Str) (f : Str → Int) : List (Key × V) := ns.map fun n => (Sum.inr n, V.int (f n))
def updf (f : Str → Int) (n : Str) (v : Int) : Str → Int := fun m => if m = n then v else f m
theorem kvF_congr {ns : List Str} {f g : Str → Int} (h : ∀ n ∈ ns, f n = g n) : kvF ns f = kvF ns g := List.map_congr_left fun n hn => by rw [h n hn]
theorem kvF_val : ∀ {ns : List Str} {f : Str → Int} {n : Str}, n ∈ ns → valV (kvF ns f) (.inr n) = some (.int (f n))
  | m :: ns, f, n, h => by
    by_cases e : n = m
    · subst e
      rw [kvF, List.map_cons, valV_pos rfl]
    · have e' : ¬ (Sum.inr m : Key) = Sum.inr n := fun z => e (Sum.inr.inj z).symm
      rw [kvF, List.map_cons, valV_neg e']
      refine kvF_val ?_
      rcases List.mem_cons.mp h with z | z
      · exact absurd z e
      · exact z
theorem kvF_none : ∀ {ns : List Str} {f : Str → Int} {n : Str}, n ∉ ns → valV (kvF ns f) (.inr n) = none
  | [], _, _, _ => rfl
  | m :: ns, f, n, h => by
    have e' : ¬ (Sum.inr m : Key) = Sum.inr n := fun z => h (by rw [← Sum.inr.inj z]; exact List.mem_cons_self)
    rw [kvF, List.map_cons, valV_neg e']
    exact kvF_none fun z => h (List.mem_cons_of_mem _ z)
theorem kvF_put {ns : List Str} {f : Str → Int} {n : Str} {v : Int} (h : n ∈ ns) : putK (kvF ns f) (.inr n) (.int v) = kvF ns (updf f n v) := by
  unfold putK
  rw [if_pos]
  · rw [kvF, kvF, List.map_map]
    refine List.map_congr_left fun m _ => ?_
    show (if (Sum.inr m : Key) = Sum.inr n then ((Sum.inr m : Key), V.int v) else (Sum.inr m, V.int (f m))) = (Sum.inr m, V.int (updf f n v m))
    unfold updf
    by_cases e : m = n
    · rw [if_pos (by rw [e]), if_pos e]
    · rw [if_neg (fun z => e (Sum.inr.inj z)), if_neg e]
  · rw [valV_any, kvF_val h]
    rfl
theorem kvF_new {ns : List Str} {f : Str → Int} {n : Str} {v : Int} (h : n ∉ ns) : putK (kvF ns f) (.inr n) (.int v) = kvF (ns ++ [n]) (updf f n v) := by
  rw [putK_new _ (kvF_none h), kvF, kvF, List.map_append]
  congr 1
  · refine List.map_congr_left fun m hm => ?_
    unfold updf
    rw [if_neg (fun e => h (by rw [← e]; exact hm))]
  · show [((Sum.inr n : Key), V.int v)] = [(Sum.inr n, V.int (updf f n v n))]
    unfold updf
    rw [if_pos rfl]
/-! ### neighbours, moves -/
def nbrF (es : List (Str × Str)) (x : Str) : List Str := es.flatMap fun e => (if e.1 = x then [e.2] else []) ++ (if e.2 = x then [e.1] else [])
theorem mem_nbrF {es : List (Str × Str)} {x z : Str} : z ∈ nbrF es x ↔ (x, z) ∈ es ∨ (z, x) ∈ es := by
  unfold nbrF
  rw [List.mem_flatMap]
  constructor
  · rintro ⟨e, he, h⟩
    rcases List.mem_append.mp h with h | h
    · split at h
      · rename_i c
        have : z = e.2 := by simpa using h
        subst this
        subst c
        exact .inl he
      · cases h
    · split at h
      · rename_i c
        have : z = e.1 := by simpa using h
        subst this
        subst c
        exact .inr he
      · cases h
  · rintro (h | h)
    · exact ⟨_, h, by simp⟩
    · exact ⟨_, h, by simp⟩
def freeB (es : List (Str × Str)) (f : Str → Int) (n : Str) (v : Int) : Bool := !decide (v ∈ (nbrF es n).map f ++ [f n])
def movesOf (es : List (Str × Str)) (f : Str → Int) (n : Str) : List (Str × Int) := (([0, 1, 2] : List Int).filter (freeB es f n)).map fun v => (n, v)
def movesF (ns : List Str) (es : List (Str × Str)) (f : Str → Int) (ps : List Str) : List (Str × Int) := ns.flatMap fun n => if n ∈ ps then [] else movesOf es f n
structure Legal (ns : List Str) (es : List (Str × Str)) (f : Str → Int) (ps : List Str) (m : Str × Int) : Prop where
  mem : m.1 ∈ ns
  pin : m.1 ∉ ps
  val : 0 ≤ m.2 ∧ m.2 < 3
  own : m.2 ≠ f m.1
  nbr : ∀ z, (m.1, z) ∈ es ∨ (z, m.1) ∈ es → m.2 ≠ f z
theorem legal_of {ns : List Str} {es : List (Str × Str)} {f : Str → Int} {ps : List Str} {m : Str × Int} (h : m ∈ movesF ns es f ps) : Legal ns es f ps m := by
  unfold movesF at h
  obtain ⟨n, hn, h⟩ := List.mem_flatMap.mp h
  split at h
  · cases h
  · rename_i hp
    unfold movesOf at h
    obtain ⟨v, hv, rfl⟩ := List.mem_map.mp h
    obtain ⟨h1, h2⟩ := List.mem_filter.mp hv
    unfold freeB at h2
    have h2 : v ∉ (nbrF es n).map f ++ [f n] := by simpa using h2
    have h3 : v = 0 ∨ v = 1 ∨ v = 2 := by simpa using h1
    refine ⟨hn, hp, by show 0 ≤ v ∧ v < 3; omega, fun e => h2 (List.mem_append_right _ (by rw [show v = f n from e]; exact List.mem_singleton_self _)), fun z hz e => h2 (List.mem_append_left _ ?_)⟩
    rw [show v = f z from e]
    exact List.mem_map_of_mem (mem_nbrF.mpr hz)
/-- one move after another -/
inductive Plays (ns : List Str) (es : List (Str × Str)) (ps : List Str) (f : Str → Int) : List (Str × Int) → (Str → Int) → Prop
  | nil : Plays ns es ps f [] f
  | snoc {ms : List (Str × Int)} {f' : Str → Int} {m : Str × Int} : Plays ns es ps f ms f' → Legal ns es f' ps m → Plays ns es ps f (ms ++ [m]) (updf f' m.1 m.2)
/-! ### counting -/
def dlt (d : Int) : Int := if d % 3 = 0 then 0 else if d % 3 = 1 then 1 else -1
def slp (f : Str → Int) (a b : Str) : Int := if (f b - f a) % 3 = 1 then 1 else -1
/-- the state and the numbers behind the moves -/
def countF (f h : Str → Int) : List (Str × Int) → (Str → Int) × (Str → Int)
  | [] => (f, h)
  | (n, v) :: r => countF (updf f n v) (updf h n (h n + dlt (f n - v))) r
theorem countF_snoc {n : Str} {v : Int} : ∀ {ms : List (Str × Int)} {f h : Str → Int}, countF f h (ms ++ [(n, v)]) = (updf (countF f h ms).1 n v, updf (countF f h ms).2 n ((countF f h ms).2 n + dlt ((countF f h ms).1 n - v)))
  | [], _, _ => rfl
  | (m, w) :: ms, _, _ => by
    rw [List.cons_append, countF, countF_snoc, countF]
structure EsOk (ns : List Str) (es : List (Str × Str)) (f : Str → Int) : Prop where
  ne : ∀ e ∈ es, e.1 ≠ e.2
  mem : ∀ e ∈ es, e.1 ∈ ns ∧ e.2 ∈ ns
  tri : ∀ n ∈ ns, 0 ≤ f n ∧ f n < 3
  pro : ∀ e ∈ es, f e.1 ≠ f e.2
theorem slp_pm (f : Str → Int) (a b : Str) : slp f a b = 1 ∨ slp f a b = -1 := by
  unfold slp
  split
  · exact .inl rfl
  · exact .inr rfl
theorem move_keeps {ns : List Str} {es : List (Str × Str)} {ps : List Str} {f0 f h : Str → Int} {m : Str × Int} (ok : EsOk ns es f) (l : Legal ns es f ps m) (t : ∀ e ∈ es, slp f0 e.1 e.2 - slp f e.1 e.2 = 2 * (h e.1 - h e.2)) :
    EsOk ns es (updf f m.1 m.2) ∧ ∀ e ∈ es, slp f0 e.1 e.2 - slp (updf f m.1 m.2) e.1 e.2 = 2 * (updf h m.1 (h m.1 + dlt (f m.1 - m.2)) e.1 - updf h m.1 (h m.1 + dlt (f m.1 - m.2)) e.2) := by
  obtain ⟨n, v⟩ := m
  have hv := l.val
  have ho := l.own
  have hm := l.mem
  simp only at hv ho hm
  refine ⟨⟨ok.ne, ok.mem, fun x hx => ?_, fun e he => ?_⟩, fun e he => ?_⟩
  · show 0 ≤ updf f n v x ∧ updf f n v x < 3
    unfold updf
    split
    · exact hv
    · exact ok.tri x hx
  · show updf f n v e.1 ≠ updf f n v e.2
    have hne := ok.ne e he
    have hp := ok.pro e he
    unfold updf
    by_cases h1 : e.1 = n
    · rw [if_pos h1, if_neg (fun z => hne (h1.trans z.symm))]
      exact l.nbr e.2 (.inl (by show (n, e.2) ∈ es; rw [← h1]; exact he))
    · by_cases h2 : e.2 = n
      · rw [if_neg h1, if_pos h2]
        exact Ne.symm (l.nbr e.1 (.inr (by show (e.1, n) ∈ es; rw [← h2]; exact he)))
      · rw [if_neg h1, if_neg h2]
        exact hp
  · show slp f0 e.1 e.2 - slp (updf f n v) e.1 e.2 = 2 * (updf h n (h n + dlt (f n - v)) e.1 - updf h n (h n + dlt (f n - v)) e.2)
    have hne := ok.ne e he
    have hp := ok.pro e he
    have t1 := ok.tri e.1 (ok.mem e he).1
    have t2 := ok.tri e.2 (ok.mem e he).2
    have te := t e he
    by_cases h1 : e.1 = n
    · have h2 : ¬ e.2 = n := fun z => hne (h1.trans z.symm)
      have nb := l.nbr e.2 (.inl (by show (n, e.2) ∈ es; rw [← h1]; exact he))
      simp only at nb
      have e1 : updf f n v e.1 = v := if_pos h1
      have e2 : updf f n v e.2 = f e.2 := if_neg h2
      have e3 : updf h n (h n + dlt (f n - v)) e.1 = h e.1 + dlt (f e.1 - v) := by rw [h1]; exact if_pos rfl
      have e4 : updf h n (h n + dlt (f n - v)) e.2 = h e.2 := if_neg h2
      rw [e3, e4]
      rw [← h1] at ho
      unfold slp dlt at *
      rw [e1, e2]
      generalize f e.1 = x at *
      generalize f e.2 = y at *
      generalize h e.1 = hx at *
      generalize h e.2 = hy at *
      generalize (if (f0 e.2 - f0 e.1) % 3 = 1 then (1 : Int) else -1) = s0 at *
      have : hx - hy + hx - hy = 2 * (hx - hy) := by omega
      split at te <;> split <;> split <;> try split
      all_goals omega
    · by_cases h2 : e.2 = n
      · have nb := l.nbr e.1 (.inr (by show (e.1, n) ∈ es; rw [← h2]; exact he))
        simp only at nb
        have e1 : updf f n v e.1 = f e.1 := if_neg h1
        have e2 : updf f n v e.2 = v := if_pos h2
        have e3 : updf h n (h n + dlt (f n - v)) e.1 = h e.1 := if_neg h1
        have e4 : updf h n (h n + dlt (f n - v)) e.2 = h e.2 + dlt (f e.2 - v) := by rw [h2]; exact if_pos rfl
        rw [e3, e4]
        rw [← h2] at ho
        unfold slp dlt at *
        rw [e1, e2]
        generalize f e.1 = x at *
        generalize f e.2 = y at *
        generalize h e.1 = hx at *
        generalize h e.2 = hy at *
        generalize (if (f0 e.2 - f0 e.1) % 3 = 1 then (1 : Int) else -1) = s0 at *
        split at te <;> split <;> split <;> try split
        all_goals omega
      · have e1 : updf f n v e.1 = f e.1 := if_neg h1
        have e2 : updf f n v e.2 = f e.2 := if_neg h2
        have e3 : updf h n (h n + dlt (f n - v)) e.1 = h e.1 := if_neg h1
        have e4 : updf h n (h n + dlt (f n - v)) e.2 = h e.2 := if_neg h2
        rw [e3, e4, ← te]
        unfold slp
        rw [e1, e2]
theorem plays_ok {ns : List Str} {es : List (Str × Str)} {ps : List Str} {f0 : Str → Int} (ok : EsOk ns es f0) {ms : List (Str × Int)} {f : Str → Int} (p : Plays ns es ps f0 ms f) :
    (countF f0 (fun _ => 0) ms).1 = f ∧ EsOk ns es f ∧ ∀ e ∈ es, slp f0 e.1 e.2 - slp f e.1 e.2 = 2 * ((countF f0 (fun _ => 0) ms).2 e.1 - (countF f0 (fun _ => 0) ms).2 e.2) := by
  induction p with
  | nil => exact ⟨rfl, ok, fun e _ => by show slp f0 e.1 e.2 - slp f0 e.1 e.2 = 2 * ((0 : Int) - 0); omega⟩
  | @snoc ms f' m p l ih =>
    obtain ⟨i1, i2, i3⟩ := ih
    obtain ⟨n, v⟩ := m
    rw [countF_snoc, i1]
    obtain ⟨k1, k2⟩ := move_keeps i2 l i3
    exact ⟨rfl, k1, k2⟩
/-! ### fitting -/
def fitB (f h : Str → Int) (a b : Str) : Bool := if slp f a b = 1 then decide (0 ≤ h a - h b) && decide (h a - h b ≤ 1) else decide (0 ≤ h b - h a) && decide (h b - h a ≤ 1)
def Fits (es : List (Str × Str)) (f h : Str → Int) : Prop := ∀ e ∈ es, fitB f h e.1 e.2 = true
theorem fit_iff {f h : Str → Int} {a b : Str} : fitB f h a b = true ↔ (if slp f a b = 1 then 0 ≤ h a - h b ∧ h a - h b ≤ 1 else 0 ≤ h b - h a ∧ h b - h a ≤ 1) := by
  unfold fitB
  split <;> simp
theorem fits_count {ns : List Str} {es : List (Str × Str)} {ps : List Str} {f0 : Str → Int} (ok : EsOk ns es f0) {ms : List (Str × Int)} {f : Str → Int} (p : Plays ns es ps f0 ms f) : Fits es f0 (countF f0 (fun _ => 0) ms).2 := by
  intro e he
  have t := (plays_ok ok p).2.2 e he
  rw [fit_iff]
  have h1 := slp_pm f e.1 e.2
  have h0 := slp_pm f0 e.1 e.2
  split <;> omega
end U

/-! medians, distances -/
namespace U
open PySem PySem.Spec PyProof.Rows L2
/-! ### distances -/
def ab (x y : Int) : Int := ((x - y).natAbs : Int)
end U

/-! comprehensions, locks, statements that are never reached: their readings -/
namespace U
open PySem PySem.Spec PyProof.Rows L2
/-- f(e, .., k = v, ..): the keywords in the parameters' order, behind the rest -/
structure CalK (P : Program) (w : World) (K : PySem.W.Frag) (mg : Str → Option Value) (base : Heap) (CX : CXT) (k : Nat) (x : Str) (np : Nat) (ks : List Str) (sp : Sp) : Prop where
  ex : ∃ (f : Addr) (fd : FuncData) (ps : List Str), FnG P w K mg base CX k f fd ps sp ∧ mg x = some (.ref f) ∧ PySem.W.keepIn K (.ref f) = true ∧
    ∀ us ws : List Value, us.length = np → ws.length = ks.length → bindArgs fd ⟨us, ks.zip ws⟩ = pure (ps.zip (us ++ ws))
def tCK (sp : Sp) (np nk : Nat) (E : XK) (t tk : TA) : TE := fun σ H Q => t σ H fun vs H1 => vs.length = np ∧ tk σ H1 fun zs H2 => zs.length = nk ∧ sp (vs ++ zs) H2 Q E
theorem vals_app {vs zs : List V} {us ws : List Value} (a : Vals vs us) (b : Vals zs ws) : Vals (vs ++ zs) (us ++ ws) := a.append b
theorem pe_cK {X : Cx} {CX : L2.CXT} {k j : Nat} {x : Str} {np : Nat} {ks : List Str} {sp : Sp} {E : XK} {e : Expr} {es : List Expr} {kws : List Keyword} {t tk : TA} {p pos : Pos} (c : CalK X.prog X.w X.K X.mg X.base CX k x np ks sp) (hr : Rm j X.A) (hk : k ≤ j) (hg : Gl X x) (hx : Passes CX X E)
    (ha : PA X (e :: es) t) (hkw : PK X kws tk) (hall : (backToKw pos (keywordEach kws X.env)).all (·.1.isSome) = true := by rfl) (hks : (backToKw pos (keywordEach kws X.env)).filterMap (·.1) = ks := by rfl)
    (hdb : (x == ("__debug__" : Str)) = false := by decide) (he : starEach (e :: es) X.env = (false, eval e X.env) :: starEach es X.env := by rfl)
    (hpl : ((backTo pos (starEach (e :: es) X.env)).any (·.1) || (backToKw pos (keywordEach kws X.env)).any (·.1.isNone)) = false := by rfl) :
    PE X (.Call (.Name x p) (e :: es) kws pos) (tCK sp np ks.length E t tk) := by
  obtain ⟨f, fd, ps, F, hm, kp, b⟩ := c.ex
  refine ⟨fun pins s σ H Q I h => wpAny_Call_Name_kw (ld_glob I hg hm ?_ hdb)⟩
  refine PySem.W.callWith_KW (h₀ := X.base) I.ok.mod.kin kp hall (thn (ha.run pos pins s σ H _ I h) fun us s1 ⟨vs, H1, I1, r, hn, q⟩ => ?_) hpl he
  refine thn (hkw.run pos pins s1 σ H1 _ I1 q) fun ws s2 ⟨zs, H2, I2, rz, hz, q2⟩ => ⟨I2.kIn, ?_⟩
  rw [hks]
  have bd : BindsTo s2 fd ⟨us, ks.zip ws⟩ (ps.zip (us ++ ws)) := .of_eq (b us ws (by rw [← r.length]; exact hn) (by rw [← rz.length]; exact hz))
  refine wpAny_call (codeAny_mono (F.go X.A X.stack s2 H2 ⟨us, ks.zip ws⟩ (us ++ ws) (vs ++ zs) Q E (hr.mono hk) I2.env0 bd (vals_app r rz) q2) ?_)
  intro res s' hq
  cases res with
  | error er => exact hx pins σ H2 s2 er s' I2 hq
  | ok fl =>
    cases fl with
    | ret u => exact I2.after hq
    | next => exact hq.elim
    | brk => exact hq.elim
    | cont => exact hq.elim
theorem ps_dead {X : Cx} {st : Stmt} : PS X st (fun _ _ _ => False) := ⟨fun _ _ _ _ _ _ h => h.elim⟩
def DcB (J : It) (g : TG) (tt : TT) (tk tv : TE) (vs : List Nat) (σ : L2.St) (H1 : Hp) (D : Addr) (Qd : Hp → Prop) : Prop := ∃ W : Nat → Nat → Hp → Prop, (∃ m, W 0 m (upd H1 D (.dK []))) ∧ ∀ i m H, W i m H →
  (J.stop i H ∧ Qd H) ∨ (J.go i H ∧ ∃ Nx : Hp → Prop, (∀ H', Nx H' → ∃ m', m' < m ∧ W (i + 1) m' H') ∧ ∀ x H', J.yld i H x H' → g x (wipe σ vs) H' fun σ2 H2 => wipe σ2 vs = wipe σ vs ∧ tt σ2 H2 fun b H3 =>
    if b = true then tk σ2 H3 fun y H4 => tv σ2 H4 fun z H5 => ∃ kvs k, y = kV k ∧ H5 D = some (.dK kvs) ∧ kvs.length < sizeLine ∧ Nx (upd H5 D (.dK (putK kvs k z))) else Nx H3)
section
variable {σ : L2.St} {H : Hp} {Q : VK} {D : Ends} {te td ty tv : TE} {t : TS} {g : TG} {wi : TI} {R : It → Hp → Prop} {tt : TT} {vs : List Nat} {L : Addr} {Qd : Hp → Prop} {J : It} {n : Nat} {G : Hp → Prop} {Y : Nat → Hp → V → Hp → Prop} {K : PySem.W.Frag}
theorem lcW (w : Walk J n G Y) (Pv : Nat → Hp → Prop) (h0 : Pv 0 (upd H L (.lst []))) (hG : ∀ i H, i ≤ n → Pv i H → G H)
    (hs : ∀ i x H H', i < n → Pv i H → Y i H x H' → g x (wipe σ vs) H' fun σ2 H2 => wipe σ2 vs = wipe σ vs ∧ tt σ2 H2 fun b H3 =>
      if b = true then te σ2 H3 fun y H4 => ∃ acc, H4 L = some (.lst acc) ∧ acc.length < sizeLine ∧ Pv (i + 1) (upd H4 L (.lst (acc ++ [y]))) else Pv (i + 1) H3) (hd : ∀ H, Pv n H → Qd H) : LcB J g tt te vs σ H L Qd := lc_it w Pv h0 hG hs hd
theorem dcW {tk : TE} (w : Walk J n G Y) (Pv : Nat → Hp → Prop) (h0 : Pv 0 (upd H L (.dK []))) (hG : ∀ i H, i ≤ n → Pv i H → G H)
    (hs : ∀ i x H H', i < n → Pv i H → Y i H x H' → g x (wipe σ vs) H' fun σ2 H2 => wipe σ2 vs = wipe σ vs ∧ tt σ2 H2 fun b H3 =>
      if b = true then tk σ2 H3 fun y H4 => tv σ2 H4 fun z H5 => ∃ kvs k, y = kV k ∧ H5 L = some (.dK kvs) ∧ kvs.length < sizeLine ∧ Pv (i + 1) (upd H5 L (.dK (putK kvs k z))) else Pv (i + 1) H3) (hd : ∀ H, Pv n H → Qd H) : DcB J g tt tk tv vs σ H L Qd := by
  refine ⟨fun i m H => m = n - i ∧ i ≤ n ∧ Pv i H, ⟨n, by simp, Nat.zero_le _, h0⟩, ?_⟩
  rintro i m H ⟨rfl, hi, p⟩
  have q := hG i H hi p
  by_cases hlt : i < n
  · refine .inr ⟨w.goes i H hlt q, Pv (i + 1), fun H' p' => ⟨n - (i + 1), by omega, rfl, hlt, p'⟩, fun x H' y => hs i x H H' hlt p (w.yields i H x H' hlt q y)⟩
  · have e : i = n := by omega
    subst e
    exact .inl ⟨w.stops H q, hd H p⟩
theorem rd_dc {tk : TE} (h : wi σ H fun J H1 => ∀ D, H1 D = none → DcB J g tt tk tv vs σ H1 D fun H2 => Q (.ref D) H2) : tDc wi g tt tk tv vs σ H Q := h
/-- under a lock: what the block leaves at the lock's place is the locked thing -/
theorem rd_lockE {d : Addr} {kvs : List (Key × V)} (hd : H d = some (.dK kvs)) (h : ∀ od, te σ (upd H d (.frz od (.dK kvs))) fun v H' => H' d = some (.frz od (.dK kvs)) ∧ Q v (upd H' d (.dK kvs))) : tLockE te σ H Q := ⟨d, _, hd, trivial, h⟩
theorem rd_iItems (h : td σ H fun x H1 => ∃ d o kvs, x = .ref d ∧ H1 d = some (.frz o (.dK kvs)) ∧ R (Iti d o kvs) H1) : iItems td σ H R := h
theorem rd_iKeys (h : td σ H fun x H1 => ∃ d o, x = .ref d ∧ ((∃ kvs, H1 d = some (.frz o (.dK kvs)) ∧ R (Itk d o kvs) H1) ∨ ∃ kvs, H1 d = some (.frz o (.dT kvs)) ∧ R (Itkt d o kvs) H1)) : iKeys td σ H R := h
theorem rd_forI {d : Addr} {o : Obj} {kvs : List (Key × V)} {R : Addr → Obj → List (Key × V) → Prop} (hd : H d = some (.frz o (.dK kvs))) (h : R d o kvs) : ∃ d' o kvs, V.ref d = .ref d' ∧ H d' = some (.frz o (.dK kvs)) ∧ R d' o kvs := ⟨d, o, kvs, rfl, hd, h⟩
theorem rd_wp {vs : List Nat} {σ1 σ2 : L2.St} {P : Prop} (e : wipe σ1 vs = wipe σ2 vs) (h : P) : wipe σ1 vs = wipe σ2 vs ∧ P := ⟨e, h⟩
theorem rd_yesT {Q : Bool → Hp → Prop} (h : Q true H) : tYes σ H Q := h
theorem rd_acc {L : Addr} {acc : List V} {R : List V → Prop} (hL : H L = some (.lst acc)) (hz : acc.length < 100000) (h : R acc) : ∃ acc, H L = some (.lst acc) ∧ acc.length < sizeLine ∧ R acc := ⟨acc, hL, Nat.lt_of_lt_of_le hz (by decide), h⟩
theorem rd_accD {L : Addr} {y : V} {kvs : List (Key × V)} {k : Key} {R : List (Key × V) → Key → Prop} (hy : y = kV k) (hL : H L = some (.dK kvs)) (hz : kvs.length < 100000) (h : R kvs k) : ∃ kvs k, y = kV k ∧ H L = some (.dK kvs) ∧ kvs.length < sizeLine ∧ R kvs k := ⟨kvs, k, hy, hL, Nat.lt_of_lt_of_le hz (by decide), h⟩
theorem inV_int {v : Int} {xs : List Int} : inV (.int v) (xs.map V.int) = decide (v ∈ xs) := by
  induction xs with
  | nil => rfl
  | cons x xs ih =>
    unfold inV at ih ⊢
    rw [List.map_cons, List.any_cons, ih]
    simp only [eqV, List.mem_cons, Bool.decide_or]
    congr 1
    exact decide_eq_decide.mpr ⟨Eq.symm, Eq.symm⟩
theorem inV_str {v : Str} {xs : List Str} : inV (.str v) (xs.map V.str) = decide (v ∈ xs) := by
  induction xs with
  | nil => rfl
  | cons x xs ih =>
    unfold inV at ih ⊢
    rw [List.map_cons, List.any_cons, ih]
    simp only [eqV, List.mem_cons, Bool.decide_or]
    congr 1
    exact decide_eq_decide.mpr ⟨Eq.symm, Eq.symm⟩
theorem flat_int {xs : List Int} : (xs.map V.int).all flatV = true := by
  rw [List.all_eq_true]
  intro x hx
  obtain ⟨i, _, rfl⟩ := List.mem_map.mp hx
  rfl
theorem flat_str {xs : List Str} : (xs.map V.str).all flatV = true := by
  rw [List.all_eq_true]
  intro x hx
  obtain ⟨i, _, rfl⟩ := List.mem_map.mp hx
  rfl
theorem rd_inIL {p : Addr} {v : Int} {xs : List Int} (hs : SqL K H p (xs.map V.int)) (h : Q (.bl (decide (v ∈ xs))) H) : rInU K (.int v) (.ref p) H Q := ⟨_, .inl hs, rfl, flat_int, by rw [inV_int]; exact h⟩
theorem rd_ninIL {p : Addr} {v : Int} {xs : List Int} (hs : SqL K H p (xs.map V.int)) (h : Q (.bl (!decide (v ∈ xs))) H) : rNotInU K (.int v) (.ref p) H Q := ⟨_, .inl hs, rfl, flat_int, by rw [inV_int]; exact h⟩
theorem rd_inSL {p : Addr} {v : Str} {xs : List Str} (hs : SqL K H p (xs.map V.str)) (h : Q (.bl (decide (v ∈ xs))) H) : rInU K (.str v) (.ref p) H Q := ⟨_, .inl hs, rfl, flat_str, by rw [inV_str]; exact h⟩
theorem rd_ninSL {p : Addr} {v : Str} {xs : List Str} (hs : SqL K H p (xs.map V.str)) (h : Q (.bl (!decide (v ∈ xs))) H) : rNotInU K (.str v) (.ref p) H Q := ⟨_, .inl hs, rfl, flat_str, by rw [inV_str]; exact h⟩
theorem rd_inST {p : Addr} {v : Str} {xs : List Str} (hs : SqT K H p (xs.map V.str)) (h : Q (.bl (decide (v ∈ xs))) H) : rInU K (.str v) (.ref p) H Q := ⟨_, .inr hs, rfl, flat_str, by rw [inV_str]; exact h⟩
theorem rd_ninST {p : Addr} {v : Str} {xs : List Str} (hs : SqT K H p (xs.map V.str)) (h : Q (.bl (!decide (v ∈ xs))) H) : rNotInU K (.str v) (.ref p) H Q := ⟨_, .inr hs, rfl, flat_str, by rw [inV_str]; exact h⟩
theorem rd_catL {p q : Addr} {xs ys : List V} (h1 : H p = some (.lst xs)) (h2 : H q = some (.lst ys)) (hz : xs.length + ys.length ≤ 100000) (h : nL (xs ++ ys) H Q) : rAddU K (.ref p) (.ref q) H Q := .inl ⟨xs, ys, h1, h2, Nat.le_trans hz (by decide), h⟩
theorem GrAt.same {H' : Hp} {g n e : Addr} {ns : List Str} {es : List (Addr × Str × Str)} (h : GrAt H g n e ns es) (s : Same H H') : GrAt H' g n e ns es :=
  ⟨s _ _ h.top, s _ _ h.nodes, s _ _ h.edges, fun x hx => s _ _ (h.pairs x hx)⟩
theorem GrAt.but {H' : Hp} {p g n e : Addr} {ys : List V} {ns : List Str} {es : List (Addr × Str × Str)} (h : GrAt H g n e ns es) (hp : H p = some (.lst ys)) (b : But p H H') : GrAt H' g n e ns es := by
  have k : ∀ {a : Addr} {xs : List V}, H a = some (.tup xs) → H' a = some (.tup xs) := fun {a xs} ha => b _ _ (ne_of ha hp (by intro z; cases z)) ha
  exact ⟨k h.top, k h.nodes, k h.edges, fun x hx => k (h.pairs x hx)⟩
theorem But.dK {H' : Hp} {p d : Addr} {ys : List V} {kvs : List (Key × V)} (b : But p H H') (hp : H p = some (.lst ys)) (h : H d = some (.dK kvs)) : H' d = some (.dK kvs) := b _ _ (ne_of h hp (by intro z; cases z)) h
theorem But.tup {H' : Hp} {p d : Addr} {ys xs : List V} (b : But p H H') (hp : H p = some (.lst ys)) (h : H d = some (.tup xs)) : H' d = some (.tup xs) := b _ _ (ne_of h hp (by intro z; cases z)) h
theorem same_put {H1 : Hp} {a : Addr} {o : HO} (s : Same H H1) (n : H a = none) : Same H (upd H1 a o) := fun c u h => at_upd (ne_of_none h n) (s c u h)
theorem same_add {H1 : Hp} {a : Addr} {o : HO} (s : Same H H1) (n : H1 a = none) : Same H (upd H1 a o) := fun c u h => at_upd (ne_of_none (s c u h) n) (s c u h)
/-- xs != [], whatever data -/
theorem rd_neNilD {p q : Addr} {xs : List V} {ds : List PyData} (hp : SqL K H p xs) (hd : DpAll K H xs ds) (hq : SqL K H q []) (ok : PyData.canLayAll0 ds = true) (dep : PyData.depthAll ds ≤ 60) (h : Q (.bl (!xs.isEmpty)) H) : rNeU K (.ref p) (.ref q) H Q := by
  refine ⟨_, _, .lst hp hd, .lst hq .nil, ?_, by decide, ?_⟩
  · unfold SeqAt.shaped
    rw [PyData.canLay0, ok, PyData.depth, decide_eq_true (by omega)]
    rfl
  · have : PyData.eqv (.list ds) (.list []) = xs.isEmpty := by
      cases hd with
      | nil => simp [PyData.eqv, PyData.eqvAll]
      | cons _ _ => simp [PyData.eqv, PyData.eqvAll]
    rw [this]
    exact h
theorem rd_isi {x : V} {n : String} {a t : Ty} (h1 : TyIs K H x a) (h2 : tyOf n = some t) (h : Q (.bl (isT a t)) H) : rIsiU K [x, .ty n] H Q := ⟨a, t, h1, h2, h⟩
theorem rd_din (h : ty σ H fun y H1 => td σ H1 fun x H2 => ∃ a o, x = .ref a ∧ DGet H2 a y o ∧ Q (.bl o.isSome) H2) : tDIn ty td σ H Q := h
theorem rd_dnin (h : ty σ H fun y H1 => td σ H1 fun x H2 => ∃ a o, x = .ref a ∧ DGet H2 a y o ∧ Q (.bl (!o.isSome)) H2) : tDNotIn ty td σ H Q := h
theorem rd_din1 {p : Addr} {kvs : List (Key × V)} {k : Key} {y : V} {R : Option V → Prop} (hs : Rd H p (.dK kvs)) (hy : y = kV k) (h : R (valV kvs k)) : ∃ a o, V.ref p = .ref a ∧ DGet H a y o ∧ R o := ⟨p, _, rfl, .inl ⟨kvs, k, hs, hy, rfl⟩, h⟩
theorem rd_nT {A B : Prop} (h : B) : if (!true) = true then A else B := h
theorem rd_nF {A B : Prop} (h : A) : if (!false) = true then A else B := h
/-- repr of a truth value -/
def shB (b : Bool) : Str := if b then "True" else "False"
def rReprU : List V → Hp → VK → Prop := fun xs H Q => match xs with
  | [.bl b] => Q (.str (shB b)) H
  | _ => False
theorem rd_reprB {b : Bool} (h : Q (.str (shB b)) H) : rReprU [.bl b] H Q := h
theorem rd_ck {sp : Sp} {E : XK} {np nk : Nat} {t tk : TA} (h : t σ H fun vs H1 => vs.length = np ∧ tk σ H1 fun zs H2 => zs.length = nk ∧ sp (vs ++ zs) H2 Q E) : tCK sp np nk E t tk σ H Q := h
theorem rd_len {vs : List V} {k : Nat} {P : Prop} (e : vs.length = k) (h : P) : vs.length = k ∧ P := ⟨e, h⟩
theorem rd_par {i j : Nat} {ta : TA} (h : ta σ H fun vs H1 => ∃ v w, vs = [v, w] ∧ D.nx ((σ.set i (some v)).set j (some w)) H1) : tPar i j ta D σ H := h
theorem rd_two {v w' : V} {R : V → V → Prop} (h : R v w') : ∃ x y, [v, w'] = [x, y] ∧ R x y := ⟨v, w', rfl, h⟩
theorem rd_allL {p : Addr} {bs : List Bool} (hs : SqL K H p (bs.map V.bl)) (h : Q (.bl (bs.all id)) H) : rAllU K [.ref p] H Q := ⟨bs, hs, h⟩
theorem rd_isB {a b : Bool} (h : Q (.bl (decide (a = b))) H) : rIsU (.bl a) (.bl b) H Q := ⟨a, rfl, h⟩
theorem rd_isNotB {a b : Bool} (h : Q (.bl (!decide (a = b))) H) : rIsNotU (.bl a) (.bl b) H Q := ⟨a, rfl, h⟩
theorem rd_daug {rd : V → V → Hp → VK → Prop} (h : td σ H fun x H1 => ty σ H1 fun y H2 => ∃ a v, x = .ref a ∧ DGet H2 a y (some v) ∧
  tv σ H2 fun y2 H3 => rd v y2 H3 fun z H4 => ∃ H5, DPut H4 a y z H5 ∧ D.nx σ H5) : sDAug td ty tv rd D σ H := h
end
end U

/-! dicts of references, double comprehensions, defaults, repr -/
namespace U
open PySem PySem.Spec PyProof.Rows L2
abbrev kvG (ns : List Str) (F : Str → V) : List (Key × V) := ns.map fun n => (Sum.inr n, F n)
def updV {α : Type} (f : Str → α) (n : Str) (v : α) : Str → α := fun m => if m = n then v else f m
theorem kvG_val : ∀ {ns : List Str} {F : Str → V} {n : Str}, n ∈ ns → valV (kvG ns F) (.inr n) = some (F n)
  | m :: ns, F, n, h => by
    by_cases e : n = m
    · subst e
      rw [kvG, List.map_cons, valV_pos rfl]
    · have e' : ¬ (Sum.inr m : Key) = Sum.inr n := fun z => e (Sum.inr.inj z).symm
      rw [kvG, List.map_cons, valV_neg e']
      refine kvG_val ?_
      rcases List.mem_cons.mp h with z | z
      · exact absurd z e
      · exact z
theorem kvG_none : ∀ {ns : List Str} {F : Str → V} {n : Str}, n ∉ ns → valV (kvG ns F) (.inr n) = none
  | [], _, _, _ => rfl
  | m :: ns, F, n, h => by
    have e' : ¬ (Sum.inr m : Key) = Sum.inr n := fun z => h (by rw [← Sum.inr.inj z]; exact List.mem_cons_self)
    rw [kvG, List.map_cons, valV_neg e']
    exact kvG_none fun z => h (List.mem_cons_of_mem _ z)
theorem kvG_new {ns : List Str} {F : Str → V} {n : Str} {v : V} (h : n ∉ ns) : putK (kvG ns F) (.inr n) v = kvG (ns ++ [n]) (updV F n v) := by
  rw [putK_new _ (kvG_none h), kvG, kvG, List.map_append]
  congr 1
  · refine List.map_congr_left fun m hm => ?_
    unfold updV
    rw [if_neg (fun e => h (by rw [← e]; exact hm))]
  · show [((Sum.inr n : Key), v)] = [(Sum.inr n, updV F n v n)]
    unfold updV
    rw [if_pos rfl]
theorem kvG_at {ns : List Str} {F : Str → V} {i : Nat} {x y : V} (hx : ((kvG ns F)[i]?.map fun kv => kV kv.1) = some x) (hy : (kvG ns F)[i]?.map Prod.snd = some y) : ∃ hi : i < ns.length, x = .str ns[i] ∧ y = F ns[i] := by
  rw [kvG, List.getElem?_map] at hx hy
  by_cases hi : i < ns.length
  · rw [List.getElem?_eq_getElem hi] at hx hy
    exact ⟨hi, (Option.some.inj hx).symm, (Option.some.inj hy).symm⟩
  · rw [List.getElem?_eq_none (by omega)] at hx
    cases hx
/-! f(e, ..) where defaults fill the rest -/
structure CalD (P : Program) (w : World) (K : PySem.W.Frag) (mg : Str → Option Value) (base : Heap) (CX : CXT) (k : Nat) (x : Str) (dvs : List V) (sp : Sp) : Prop where
  ex : ∃ (f : Addr) (fd : FuncData) (ps : List Str) (ds : List Value), FnG P w K mg base CX k f fd ps sp ∧ mg x = some (.ref f) ∧ PySem.W.keepIn K (.ref f) = true ∧ Vals dvs ds ∧ Binds K fd ps ds
def tCD (sp : Sp) (dvs : List V) (E : XK) (t : TA) : TE := fun σ H Q => t σ H fun vs H1 => sp (vs ++ dvs) H1 Q E
/-! two fors in a comprehension -/
def In1 (J1 : It) (g1 : TG) (tt1 : TT) (te : TE) (vs1 : List Nat) (σ2 : L2.St) (D : Addr) (H4 : Hp) (R : Hp → Prop) : Prop := ∃ W1 : Nat → Nat → Hp → Prop, (∃ m, W1 0 m H4) ∧ ∀ j k H, W1 j k H →
  (J1.stop j H ∧ R H) ∨ (J1.go j H ∧ ∃ Nx1 : Hp → Prop, (∀ H', Nx1 H' → ∃ k', k' < k ∧ W1 (j + 1) k' H') ∧ ∀ x H', J1.yld j H x H' → g1 x (wipe σ2 vs1) H' fun σ3 H5 => wipe σ3 vs1 = wipe σ2 vs1 ∧ tt1 σ3 H5 fun b H6 =>
    if b = true then te σ3 H6 fun y H7 => ∃ acc, H7 D = some (.lst acc) ∧ acc.length < sizeLine ∧ Nx1 (upd H7 D (.lst (acc ++ [y]))) else Nx1 H6)
def Lc2B (J : It) (g : TG) (tt : TT) (wi1 : TI) (g1 : TG) (tt1 : TT) (te : TE) (vs vs1 : List Nat) (σ : L2.St) (H1 : Hp) (D : Addr) (Qd : Hp → Prop) : Prop := ∃ W : Nat → Nat → Hp → Prop, (∃ m, W 0 m (upd H1 D (.lst []))) ∧ ∀ i m H, W i m H →
  (J.stop i H ∧ Qd H) ∨ (J.go i H ∧ ∃ Nx : Hp → Prop, (∀ H', Nx H' → ∃ m', m' < m ∧ W (i + 1) m' H') ∧ ∀ x H', J.yld i H x H' → g x (wipe σ vs) H' fun σ2 H2 => wipe σ2 vs = wipe σ vs ∧ tt σ2 H2 fun b H3 =>
    if b = true then wi1 σ2 H3 fun J1 H4 => In1 J1 g1 tt1 te vs1 σ2 D H4 Nx else Nx H3)
section
variable {σ : L2.St} {H : Hp} {Q : VK} {te : TE} {g g1 : TG} {wi wi1 : TI} {tt tt1 : TT} {vs vs1 : List Nat} {L : Addr} {Qd R : Hp → Prop} {J J1 : It} {n : Nat} {G : Hp → Prop} {Y : Nat → Hp → V → Hp → Prop} {K : PySem.W.Frag}
theorem rd_lc2 (h : wi σ H fun J H1 => ∀ D, H1 D = none → Lc2B J g tt wi1 g1 tt1 te vs vs1 σ H1 D fun H2 => Q (.ref D) H2) : tLc2 wi g tt wi1 g1 tt1 te vs vs1 σ H Q := h
theorem rd_cd {sp : Sp} {dvs : List V} {E : XK} {t : TA} (h : t σ H fun vs H1 => sp (vs ++ dvs) H1 Q E) : tCD sp dvs E t σ H Q := h
end
/-! repr -/
section
variable {X : Cx} {pins : List (Addr × Obj)} {σ : L2.St} {H : Hp} {s : Shared}
def encK : Key → PyData
  | .inl i => .int i
  | .inr x => .str x
theorem kv_pairs {h : Heap} {f : Str → Int} : ∀ {ns : List Str} {vs : List (Key × Value)}, KV (kvF ns f) vs → PyProof.V.PairsRead h encK vs (ns.map fun n => (.str n, .int (f n))) []
  | [], vs, r => by
    cases r
    exact .nil
  | n :: ns, vs, r => by
    cases r with
    | @cons p q ps qs hpq t =>
      obtain ⟨h1, h2⟩ := hpq
      obtain ⟨k, v⟩ := q
      have h1' : (Sum.inr n : Key) = k := h1
      subst h1'
      obtain ⟨tk, rfl⟩ : ∃ t, v = Value.int (f n) t := h2
      exact .cons (k := .inr n) (as := []) (bs := []) (Reads.int _ _) (kv_pairs t)
theorem key_reads {h : Heap} {P : Program} {w : World} : ∀ (k : Key) (key : Value), (mixKind P w).is k key = true → Reads h key (encK k) [] := by
  intro k key hk
  rcases keyIs_shape hk with ⟨i, t, rfl, rfl⟩ | ⟨x, t, rfl, rfl⟩
  · exact Reads.int _ _
  · exact Reads.str _ _
end
end U
namespace U
open PySem PySem.Spec PyProof.Rows L2
/-! name = {k: v for ..}, the name a local -/
abbrev InBlk (X : Cx) (scope : Scope) (Φ : Cx → Prop) : Prop :=
  ∀ (s : Shared) (H : Hp) (C : Addr) (cl : List (Str × Addr)) (fp : List Addr), Φ (X.blk s H scope (compEnvC scope cl C X.env) fp)
section
variable {X : Cx}
theorem sw_dict {kx vx : Expr} {gs : List Comprehension} {scope : Scope} {pos py : Pos} {y : Str} {l : Nat} {env : Env}
    (hk : env.scope.kind = .function) (hy : env.scope.names.lookup y = some .local) (hl : (py.line == pos.line) = true)
    (ha : (scope.names.any fun (n, k) => n == y && (k == .local || k == .cell)) = false) :
    swapsWith (.DictComp kx vx gs scope pos) (some (.Name y py)) l env = pure true := by
  have q1 : env.kindOf y = some .local := hy
  have q2 : env.blockKind = .function := by
    unfold Env.blockKind
    rw [hk]
    rfl
  unfold swapsWith
  simp only [q1, q2, ha, hl, Expr.pos]
  rfl
theorem ps_setDc {i : Nat} {y : Str} {py : Pos} {kx vx tg iter : Expr} {ifs : List Expr} {scope : Scope} {own : List (Str × Nat)} {pos spos : Pos} {wi : TI} {g : TG} {tt : TT} {tk tv : TE}
    (hc : X.calm = true) (hN : X.N.Nodup) (hy : X.N[i]? = some y) (hyl : X.env.scope.names.lookup y = some .local)
    (hsw : swapsWith (.DictComp kx vx [⟨tg, iter, ifs, 0⟩] scope pos) (some (.Name y py)) spos.line X.env = pure true) (hi : PI X tg iter wi) (ok : BlkOk X.N X.env.scope scope own)
    (hg : InBlk X scope fun Y => PG Y tg g) (ht : InBlk X scope fun Y => PTs Y ifs tt) (hk : InBlk X scope fun Y => PE Y kx tk) (he : InBlk X scope fun Y => PE Y vx tv)
    (hs : ∀ x, foldedSetIterable iter X.env x = pure x := by intro _; rfl) :
    PS X (.Assign [.Name y py] (.DictComp kx vx [⟨tg, iter, ifs, 0⟩] scope pos) spos) (tAsg (tDc wi g tt tk tv (own.map (·.2))) (gName i)) := by
  refine ⟨fun pins s σ H D I want => ?_⟩
  rw [exec_Assign_Name_used _ _ _ _ hsw]
  refine wpAny_bind (wpAny_standAt (wpAny_bind ?_))
  have want : tDc wi g tt tk tv (own.map (·.2)) σ H fun x H1 => gName i x σ H1 D.nx := want
  show wpAny _ X.A (do
    let _ ← comprehension (.DictComp kx vx [⟨tg, iter, ifs, 0⟩] scope pos) scope X.env (firstIterPos [⟨tg, iter, ifs, 0⟩] pos) newDict false (eval iter X.env) (some (assign (.Name y py) X.env))) _ _ s
  refine wpAny_bind (thn (dc_core (Qf := fun _ s' => SP X pins D .next s') hc hN I hi ok hg ht hk he hs want fun L C s' m H' J q hn fpo => ?_) fun _ s' done => wpAny_pure (wpAny_pure done))
  show wpAny _ _ (assign (.Name y py) X.env (.ref L)) _ _ _
  refine wpAny_assign_Name (store_ok2 (v := V.ref L) J hN hy (.inl hyl) rfl (fun s2 J2 ⟨a, sb, ha⟩ => ?_) (.inr hyl))
  obtain ⟨p0, p1, p2, p3, p4, p5⟩ := fpo
  have apart : C ≠ a := by
    cases ha with
    | inl z => rw [z]; exact p1
    | inr z => exact fun e => p4 y a z e.symm
  refine ⟨m, hn.sameBut sb apart, fun h3 sb3 => ⟨_, H', J2.turned (t' := s2.toks) (fun b o hb e => (sb3.2 b hb).trans e) p0 p1 p3 p4 p5, q⟩⟩
end
end U

/-! f(e, .., k = v, ..): keywords in any order, keyword-only defaults fill the rest -/
namespace U
open PySem PySem.Spec PyProof.Rows L2
end U

/-! xs += ys, lists -/
namespace U
open PySem PySem.Spec PyProof.Rows L2
section
variable {M : Model} {A : Around} {E : Value → Shared → Prop} {s : Shared}
theorem iadd_lookup : typeLookup (.type "list") (dunderI "add") = pure (some (.builtin "list.__iadd__")) := F.slot_list_iadd.lookup
theorem inplaceOp_lists {a b : Value} {Q : Value → Shared → Prop} (ha : s.TypeIs a "list") (hb : s.TypeIs b "list") (hfill : fillsNumberSlot (.type "list") "add" = pure false)
    (hc : wpAny M A (call (.builtin "list.__iadd__") [a, b]) Q E s) : wpAny M A (inplaceOp .Add a b) Q E s := by
  unfold inplaceOp
  refine wpAny_holding ?_
  have hs : isSeqSlot (some (.builtin "list.__iadd__")) = true := by decide +kernel
  have hfi : fillsInplaceSlot (.type "list") "add" (Operator.Add == .Add) = pure false := by
    unfold fillsInplaceSlot
    show (typeLookup (.type "list") (dunderI "add") >>= fun fi => pure (fi.isSome && !isSeqSlot fi)) = pure false
    rw [iadd_lookup, pure_bind, hs]
    rfl
  have hsi : seqSlot? (.type "list") (dunderI "add") = pure (some (.builtin "list.__iadd__")) := PySem.seqSlot_of iadd_lookup hs
  refine wpAny_bind (wpAny_typeOf ha (wpAny_bind (wpAny_of_eq hfi ?_)))
  show wpAny M A (if false = true then _ else _) Q E s
  rw [if_neg Bool.false_ne_true]
  refine wpAny_bind (binaryOp1_none (nm := "add") ha hb hfill ?_)
  refine wpAny_bind (wpAny_of_eq hsi ?_)
  exact wpAny_bind (wpAny_rule hc)
end
def ipL : TIp := fun x y H Q => ∃ l b xs ys, x = .ref l ∧ y = .ref b ∧ H l = some (.lst xs) ∧ H b = some (.lst ys) ∧ xs.length + ys.length ≤ 100000 ∧ Q (.ref l) (upd H l (.lst (xs ++ ys)))
theorem ip_addL {X : Cx} : PIp X .Add ipL := by
  intro pins s σ H x y v u Q I r1 r2 h
  obtain ⟨l, b, xs, zs, rfl, rfl, hH, hB, hz, q⟩ := h
  cases r1
  cases r2
  obtain ⟨z, its, n, r, hl, e⟩ := I.lstM hH
  obtain ⟨z2, its2, n2, r2, hl2, e2⟩ := I.lstM hB
  have hz : xs.length + zs.length ≤ sizeLine := Nat.le_trans hz (by decide)
  have hsz : its.toArray.size + its2.toArray.size ≤ sizeLine := by rw [List.size_toArray, List.size_toArray]; omega
  have hlong : ¬ (!its.toArray.isEmpty && Builtin.List.listTooLong (its.toArray.size + its2.toArray.size)) = true := by
    rw [notLongL hsz, Bool.and_false]
    exact Bool.false_ne_true
  refine inplaceOp_lists ⟨_, e, rfl⟩ ⟨_, e2, rfl⟩ ?_ ?_
  · exact PySem.noFill_list_add
  refine call_meets F.slot_list_iadd ⟨_, e, rfl⟩ F.entry_list_iadd (F.args_list_iadd_2 _ _)
    (AutoSeq1.list___iadd___list_list_0 l its.toArray n b its2.toArray n2 hlong (by rw [List.size_toArray]; omega) (by omega)) ⟨e, e2, ?_⟩
  refine ⟨.ref l, _, I.lset (its' := its ++ its2) hH e (by simp) (r.append r2) ?_, rfl, q⟩
  rw [List.length_append]
  omega
theorem rd_ipL {l b : Addr} {xs ys : List V} {H : Hp} {Q : VK} (h1 : H l = some (.lst xs)) (h2 : H b = some (.lst ys)) (hz : xs.length + ys.length ≤ 100000) (h : Q (.ref l) (upd H l (.lst (xs ++ ys)))) : ipL (.ref l) (.ref b) H Q := ⟨l, b, xs, ys, rfl, rfl, h1, h2, hz, h⟩
end U

/-! own classes whose methods call other defs: C(.., k = v), o.m(..), len(o), (o.f, o.g) = .. -/
namespace U
open PySem PySem.Spec PyProof.Rows L2
/-- a method that may be called -/
structure CalM (P : Program) (w : World) (K : PySem.W.Frag) (mg : Str → Option Value) (base : Heap) (CX : CXT) (k : Nat) (C : Addr) (m : Str) (sp : Sp) : Prop where
  ex : ∃ (f : Addr) (fd : FuncData) (ps : List Str), FnG P w K mg base CX k f fd ps sp ∧ Meth K C m f ∧ Binds K fd ps []
def tMG (C : Addr) (m : Str) (sp : Sp) (E : XK) (ta : TE) (t : TA) : TE := fun σ H Q => ta σ H fun x H1 => ∃ a dx fs, x = .ref a ∧ H1 a = some (.ins C dx fs) ∧ fs.lookup m = none ∧ t σ H1 fun vs H2 => sp (x :: vs) H2 Q E
def tMG2 (C : Addr) (m : Str) (sp : Sp) (W : WX) (ta : TE) (t : TA) : TE := fun σ H Q => ta σ H fun x H1 => ∃ a dx fs, x = .ref a ∧ H1 a = some (.ins C dx fs) ∧ fs.lookup m = none ∧ t σ H1 fun vs H2 => sp (x :: vs) H2 Q fun cls d H' => W cls d σ H'
section
variable {X : Cx} {CX : L2.CXT} {k j : Nat} {C : Addr} {m : Str} {sp : Sp} {E : XK} {W : WX} {apos pos : Pos} {o e : Expr} {es : List Expr} {ta : TE} {t : TA}
theorem pe_mG {pl : Sem Bool} (c : CalM X.prog X.w X.K X.mg X.base CX k C m sp) (cl : Cls X.K C) (hr : Rm j X.A) (hk : k ≤ j) (hx : Passes CX X E) (he : PE X o ta) (ha : PA X (e :: es) t)
    (hst : starEach (e :: es) X.env = (false, eval e X.env) :: starEach es X.env := by rfl) (hpl : (backTo pos (starEach es X.env)).any (·.1) = false := by rfl)
    (ht : eval (.Call (.Attribute o m apos) (e :: es) [] pos) X.env = (do
      let ov ← eval o X.env
      standAt apos.atName
      let (f, first) ← holding [ov] (getMethod ov m pl)
      callWith pos f first (backTo pos (starEach (e :: es) X.env)) (backToKw pos (keywordEach [] X.env))) := by rfl) :
    PE X (.Call (.Attribute o m apos) (e :: es) [] pos) (tMG C m sp E ta t) := by
  obtain ⟨f, fd, ps, F, hm, hb⟩ := c.ex
  refine ⟨fun pins s σ H Q I h => ?_⟩
  refine PySem.W.methodCall_KW (pl := pl) (thn (he.run pins s σ H _ I h) fun u s1 ⟨x, H1, I1, rx, a, dx, fs, ex, ea, l, q⟩ => ?_) ht
  subst ex
  obtain rfl : u = Value.ref a := rx
  refine getmeth_ok I1 ea cl hm l ?_
  refine PySem.W.callWith_K (first := [.ref a]) (h₀ := X.base) I.ok.mod.kin hm.kp (thn (ha.run pos pins s1 σ H1 _ I1 q) fun us s2 ⟨vs, H2, I2, r, q2⟩ => ⟨I2.kIn, ?_⟩) hst hpl
  exact callG (us := .ref a :: us) (vs := .ref a :: vs) F (hr.mono hk) hb hx I2 (.cons rfl r) q2
theorem callGX {pins : List (Addr × Obj)} {σ : L2.St} {H : Hp} {s : Shared} {Q : VK} {us : List Value} {vs : List V} {f : Addr} {fd : FuncData} {ps : List Str} (F : FnG X.prog X.w X.K X.mg X.base (L2.CX X.prog X.w) k f fd ps sp) (hr : Rm k X.A) (hb : Binds X.K fd ps []) (tk : Takes X W)
    (I : Inv X pins σ H s) (r : Vals vs us) (q : sp vs H Q fun cls d H' => W cls d σ H') : wpAny (model X.prog X.w) X.A (call (.ref f) us) (EP X pins σ Q) X.xe s := by
  have count : us.length = ps.length := r.length ▸ F.len _ _ _ _ q
  have bd := hb s us I.kIn (by rw [List.append_nil]; exact count)
  rw [List.append_nil] at bd
  refine wpAny_call (codeAny_mono (F.go X.A X.stack s H ⟨us, []⟩ us vs _ _ hr I.env0 bd r q) ?_)
  intro res s' hq
  cases res with
  | error er => exact tk er s' (XE.of_call I (fun cls d H' z => z) hq)
  | ok fl =>
    cases fl with
    | ret u => exact I.after hq
    | next => exact hq.elim
    | brk => exact hq.elim
    | cont => exact hq.elim
/-- .. what is raised is wished for at the caller's slots -/
theorem pe_mGX {pl : Sem Bool} (c : CalM X.prog X.w X.K X.mg X.base (L2.CX X.prog X.w) k C m sp) (cl : Cls X.K C) (hr : Rm j X.A) (hk : k ≤ j) (tk : Takes X W) (he : PE X o ta) (ha : PA X (e :: es) t)
    (hst : starEach (e :: es) X.env = (false, eval e X.env) :: starEach es X.env := by rfl) (hpl : (backTo pos (starEach es X.env)).any (·.1) = false := by rfl)
    (ht : eval (.Call (.Attribute o m apos) (e :: es) [] pos) X.env = (do
      let ov ← eval o X.env
      standAt apos.atName
      let (f, first) ← holding [ov] (getMethod ov m pl)
      callWith pos f first (backTo pos (starEach (e :: es) X.env)) (backToKw pos (keywordEach [] X.env))) := by rfl) :
    PE X (.Call (.Attribute o m apos) (e :: es) [] pos) (tMG2 C m sp W ta t) := by
  obtain ⟨f, fd, ps, F, hm, hb⟩ := c.ex
  refine ⟨fun pins s σ H Q I h => ?_⟩
  refine PySem.W.methodCall_KW (pl := pl) (thn (he.run pins s σ H _ I h) fun u s1 ⟨x, H1, I1, rx, a, dx, fs, ex, ea, l, q⟩ => ?_) ht
  subst ex
  obtain rfl : u = Value.ref a := rx
  refine getmeth_ok I1 ea cl hm l ?_
  refine PySem.W.callWith_K (first := [.ref a]) (h₀ := X.base) I.ok.mod.kin hm.kp (thn (ha.run pos pins s1 σ H1 _ I1 q) fun us s2 ⟨vs, H2, I2, r, q2⟩ => ⟨I2.kIn, ?_⟩) hst hpl
  exact callGX (us := .ref a :: us) (vs := .ref a :: vs) F (hr.mono hk) hb tk I2 (.cons rfl r) q2
end
/-- a class that may be made -/
structure CalC (P : Program) (w : World) (K : PySem.W.Frag) (mg : Str → Option Value) (base : Heap) (CX : CXT) (k : Nat) (x : Str) (C : Addr) (n : Nat) (ks : List Str) (gV : List V → List V → List V) (sp : Sp) : Prop where
  ex : ∃ (f : Addr) (fd : FuncData) (ps : List Str) (g : List Value → List Value → List Value), FnG P w K mg base CX k f fd ps sp ∧ Mk K C f ∧ mg x = some (.ref C) ∧ KBn K fd ps (n + 1) ks g gV
def tMkG (C : Addr) (n m : Nat) (sp : Sp) (gV : List V → List V → List V) (E : XK) (t tk : TA) : TE := fun σ H Q => t σ H fun vs H1 => tk σ H1 fun zs H2 => vs.length = n ∧ zs.length = m ∧ ∀ x dx, H2 x = none → H2 dx = none → dx ≠ x →
  sp (gV (.ref x :: vs) zs) (upd (upd H2 dx (.own x)) x (.ins C dx [])) (fun v H3 => v = .non ∧ Q (.ref x) H3) E
theorem make_guards {A : Around} {C : Addr} {us : List Value} {kw : List (Str × Value)} (h : A.guards = some []) : (A.under (.builtin "type.__call__" ⟨.ref C :: us, kw⟩)).guards = some [] := by
  have e : (Code.builtin "type.__call__" ⟨.ref C :: us, kw⟩).guards = [] := by
    first | rfl | simp [Code.guards, Code.isGuard, guardIds] | (unfold Code.guards Code.isGuard; decide +kernel)
  show pushGuards (Code.builtin "type.__call__" ⟨.ref C :: us, kw⟩).guards A.guards = some []
  rw [e]
  exact h
theorem Rm.make {k : Nat} {A : Around} (r : Rm (k + 1) A) (C : Addr) (us : List Value) (kw : List (Str × Value)) : Rm k (A.under (.builtin "type.__call__" ⟨.ref C :: us, kw⟩)) := ⟨r.r.make C us kw, make_guards r.g⟩
theorem Rm.in1 {k : Nat} {A : Around} (r : Rm (k + 1) A) : Rm k A.in1 := ⟨r.r.in1, r.g⟩
section
variable {X : Cx} {CX : L2.CXT} {k j n : Nat} {C f : Addr} {fd : FuncData} {ps ks : List Str} {x : Str} {sp : Sp} {E : XK} {p pos : Pos} {e : Expr} {es : List Expr} {kws : List Keyword} {t tk : TA} {g : List Value → List Value → List Value} {gV : List V → List V → List V}
theorem run_mkG {pins : List (Addr × Obj)} {σ : L2.St} {H : Hp} {s : Shared} {Q : VK} {us ws : List Value} {vs zs : List V} (M : Mk X.K C f) (F : FnG X.prog X.w X.K X.mg X.base CX k f fd ps sp) (hr : Rm (k + 1) X.A) (hb : KBn X.K fd ps (n + 1) ks g gV) (hx : Passes CX X E)
    (I : Inv X pins σ H s) (r : Vals vs us) (rz : Vals zs ws) (l1 : vs.length = n) (l2 : zs.length = ks.length)
    (h : ∀ x dx, H x = none → H dx = none → dx ≠ x → sp (gV (.ref x :: vs) zs) (upd (upd H dx (.own x)) x (.ins C dx [])) (fun v H2 => v = .non ∧ Q (.ref x) H2) E) :
    wpAny (model X.prog X.w) X.A (call (.ref C) us (ks.zip ws)) (EP X pins σ Q) X.xe s := by
  have hq := h (s.heap.objs.size + 1) s.heap.objs.size (I.hok.fresh (Nat.le_succ _)) (I.hok.fresh (Nat.le_refl _)) (Nat.ne_of_lt (Nat.lt_succ_self _))
  have I2 := Inv.made (C := C) I
  have r1 : Vals (V.ref (s.heap.objs.size + 1) :: vs) (Value.ref (s.heap.objs.size + 1) :: us) := .cons rfl r
  have r2 := hb.rel r1 rz
  have n1 : (Value.ref (s.heap.objs.size + 1) :: us).length = n + 1 := by
    rw [List.length_cons, ← r.length, l1]
  refine wpAny_call (make_map (f := f) I.kIn M.makes M.init (beq_iff_eq.mp M.fn) (codeAny_mono (F.go _ X.stack _ _ ⟨Value.ref (s.heap.objs.size + 1) :: us, ks.zip ws⟩ (g (Value.ref (s.heap.objs.size + 1) :: us) ws) _ _ E (hr.make C us (ks.zip ws))
    (I2.env0.make C us (ks.zip ws)) (hb.to _ (Value.ref (s.heap.objs.size + 1) :: us) ws I2.kIn n1 (rz.length.symm.trans l2)) r2 hq) fun r s' hq' => ?_))
  cases r with
  | error e => exact hx pins σ _ _ e s' I2 hq'
  | ok fl =>
    cases fl with
    | ret u =>
      obtain ⟨v, H', I3, rv, ev, q3⟩ := I2.after hq'
      subst ev
      exact ⟨rv, ⟨V.ref (s.heap.objs.size + 1), H', I3, rfl, q3⟩⟩
    | next => exact False.elim hq'
    | brk => exact False.elim hq'
    | cont => exact False.elim hq'
theorem pe_mkG (c : CalC X.prog X.w X.K X.mg X.base CX k x C n ks gV sp) (hr : Rm j X.A) (hk : k + 1 ≤ j) (hg : Gl X x) (hx : Passes CX X E) (ha : PA X (e :: es) t) (hkw : PK X kws tk)
    (hall : (backToKw pos (keywordEach kws X.env)).all (·.1.isSome) = true := by rfl) (hks : (backToKw pos (keywordEach kws X.env)).filterMap (·.1) = ks := by rfl) (hdb : (x == ("__debug__" : Str)) = false := by decide)
    (he : starEach (e :: es) X.env = (false, eval e X.env) :: starEach es X.env := by rfl) (hpl : ((backTo pos (starEach (e :: es) X.env)).any (·.1) || (backToKw pos (keywordEach kws X.env)).any (·.1.isNone)) = false := by rfl) :
    PE X (.Call (.Name x p) (e :: es) kws pos) (tMkG C n ks.length sp gV E t tk) := by
  obtain ⟨f, fd, ps, g, F, M, hm, hb⟩ := c.ex
  refine ⟨fun pins s σ H Q I h => ?_⟩
  refine wpAny_Call_Name_kw (ld_glob I hg hm ?_ hdb)
  refine PySem.W.callWith_KW (h₀ := X.base) I.ok.mod.kin M.kp hall (thn (ha.run pos pins s σ H _ I h) fun us s1 ⟨vs, H1, I1, r, q⟩ => ?_) hpl he
  refine thn (hkw.run pos pins s1 σ H1 _ I1 q) fun ws s2 ⟨zs, H2, I2, rz, l1, l2, q2⟩ => ⟨I2.kIn, ?_⟩
  rw [hks]
  exact run_mkG M F (hr.mono hk) hb hx I2 r rz l1 l2 q2
end
/-! ### targets -/
/-- o.f as a target -/
def gFld (K : PySem.W.Frag) (ta : TE) (f : Str) : TG := fun v σ H Q => ta σ H fun x H2 => ∃ a C dx fs, x = .ref a ∧ H2 a = some (.ins C dx fs) ∧ Cls K C ∧ NoAttr K C f ∧ fs.length < 1000 ∧ Q σ (upd H2 a (.ins C dx (putF f v fs)))
theorem pg_fld {X : Cx} {o : Expr} {f : Str} {pos : Pos} {ta : TE} (ho : PE X o ta) : PG X (.Attribute o f pos) (gFld X.K ta f) := by
  refine ⟨fun pins s σ H v u Q I r h => ?_⟩
  rw [assign_Attribute]
  refine wpAny_bind (wpAny_holding (thn (ho.run pins s σ H _ I h) fun ov s1 ⟨x, H1, I1, rx, a, C, dx, fs, ex, ea, c, n, l, q⟩ => ?_))
  subst ex
  obtain rfl : ov = Value.ref a := rx
  refine wpAny_bind (wpAny_standAt (wpAny_bind (wpAny_holding (setattr_ok I1 ea c n l r fun s2 I2 => ?_))))
  exact wpAny_release ⟨σ, _, I2, q⟩
theorem rd_gFld {K : PySem.W.Frag} {ta : TE} {f : Str} {v : V} {σ : L2.St} {H : Hp} {Q : L2.St → Hp → Prop} (h : ta σ H fun x H2 => ∃ a C dx fs, x = .ref a ∧ H2 a = some (.ins C dx fs) ∧ Cls K C ∧ NoAttr K C f ∧ fs.length < 1000 ∧ Q σ (upd H2 a (.ins C dx (putF f v fs)))) : gFld K ta f v σ H Q := h
/-- e.f, the fragment known -/
theorem kFld {X : Cx} (K : PySem.W.Frag) (hK : X.K = K) {e : Expr} {f : Str} {pos : Pos} {ta : TE} (he : PE X e ta) (hb : attributeBase e f X.env (eval e X.env) = eval e X.env) : PE X (.Attribute e f pos) (tFld K ta f) := by
  subst hK
  exact pe_fld he hb
theorem rd_fld {K : PySem.W.Frag} {ta : TE} {f : Str} {σ : L2.St} {H : Hp} {Q : VK} (h : ta σ H fun x H1 => ∃ a C dx fs v, x = .ref a ∧ H1 a = some (.ins C dx fs) ∧ Cls K C ∧ NoAttr K C f ∧ fs.lookup f = some v ∧ Q v H1) : tFld K ta f σ H Q := h
theorem rd_mG {C : Addr} {m : Str} {sp : Sp} {E : XK} {ta : TE} {t : TA} {σ : L2.St} {H : Hp} {Q : VK} (h : ta σ H fun x H1 => ∃ a dx fs, x = .ref a ∧ H1 a = some (.ins C dx fs) ∧ fs.lookup m = none ∧ t σ H1 fun vs H2 => sp (x :: vs) H2 Q E) : tMG C m sp E ta t σ H Q := h
theorem rd_mGX {C : Addr} {m : Str} {sp : Sp} {W : WX} {ta : TE} {t : TA} {σ : L2.St} {H : Hp} {Q : VK} (h : ta σ H fun x H1 => ∃ a dx fs, x = .ref a ∧ H1 a = some (.ins C dx fs) ∧ fs.lookup m = none ∧ t σ H1 fun vs H2 => sp (x :: vs) H2 Q fun cls d H' => W cls d σ H') : tMG2 C m sp W ta t σ H Q := h
theorem rd_sFld {K : PySem.W.Frag} {ta tv : TE} {f : Str} {D : Ends} {σ : L2.St} {H : Hp} (h : tv σ H fun y H1 => ta σ H1 fun x H2 => ∃ a C dx fs, x = .ref a ∧ H2 a = some (.ins C dx fs) ∧ Cls K C ∧ NoAttr K C f ∧ fs.length < 1000 ∧ D.nx σ (upd H2 a (.ins C dx (putF f y fs)))) : sFld K ta tv f D σ H := h
theorem rd_sAug {K : PySem.W.Frag} {ta tv : TE} {rd : V → V → Hp → VK → Prop} {f : Str} {D : Ends} {σ : L2.St} {H : Hp} (h : ta σ H fun x H1 => ∃ a C dx fs v, x = .ref a ∧ H1 a = some (.ins C dx fs) ∧ Cls K C ∧ NoAttr K C f ∧ fs.lookup f = some v ∧
  tv σ H1 fun y H2 => rd v y H2 fun z H3 => ∃ dx' fs', H3 a = some (.ins C dx' fs') ∧ fs'.length < 1000 ∧ D.nx σ (upd H3 a (.ins C dx' (putF f z fs')))) : sFldAug K ta tv rd f D σ H := h
theorem lkN {k a : Str} {v : V} {r : List (Str × V)} (h : (k == a) = false) : List.lookup k ((a, v) :: r) = List.lookup k r := by simp only [List.lookup, h]
theorem lkY {k : Str} {v : V} {r : List (Str × V)} : List.lookup k ((k, v) :: r) = some v := by
  have e : (k == k) = true := beq_self_eq_true k
  simp only [List.lookup, e]
theorem putN {f g : Str} {v x : V} {r : List (Str × V)} (h : ¬ g = f) : putF f v ((g, x) :: r) = (g, x) :: putF f v r := if_neg h
theorem putY {f : Str} {v x : V} {r : List (Str × V)} : putF f v ((f, x) :: r) = (f, v) :: r := if_pos rfl
theorem in_addL {X : Cx} : InOp X .Add ipL := ip_addL
/-! ### len(o) -/
end U

/-! a Team in memory: its fields (printed by tools/gen_tm.py) -/
namespace Law
open PySem PySem.Spec PyProof.Rows L2 U
/-- what a team keeps -/
structure Tm where
  (t dx g cu re ps kw ow en : Addr)
  (kws oks : List Str)
  own : Str → Str
  ens : List V
  r : Int
  (ord lo : List Str)
  (f h : Str → Int)
def Tm.fs (m : Tm) : List (Str × V) := [("own_graph", .ref m.g), ("current", .ref m.cu), ("rest", .ref m.re), ("own_pins", .ref m.ps), ("known_workers", .ref m.kw), ("owners", .ref m.ow), ("entries", .ref m.en), ("rounds_done", .int m.r)]
/-- what the class is -/
structure TmC (K : PySem.W.Frag) (C : Addr) : Prop where
  cl : Cls K C
  no_own_graph : NoAttr K C "own_graph"
  no_current : NoAttr K C "current"
  no_rest : NoAttr K C "rest"
  no_own_pins : NoAttr K C "own_pins"
  no_known_workers : NoAttr K C "known_workers"
  no_owners : NoAttr K C "owners"
  no_entries : NoAttr K C "entries"
  no_rounds_done : NoAttr K C "rounds_done"
theorem Tm.lk_own_graph (m : Tm) : m.fs.lookup ("own_graph" : Str) = some (.ref m.g) := lkY
theorem Tm.lk_current (m : Tm) : m.fs.lookup ("current" : Str) = some (.ref m.cu) := (lkN (by decide +kernel)).trans (lkY)
theorem Tm.lk_rest (m : Tm) : m.fs.lookup ("rest" : Str) = some (.ref m.re) := (lkN (by decide +kernel)).trans ((lkN (by decide +kernel)).trans (lkY))
theorem Tm.lk_own_pins (m : Tm) : m.fs.lookup ("own_pins" : Str) = some (.ref m.ps) := (lkN (by decide +kernel)).trans ((lkN (by decide +kernel)).trans ((lkN (by decide +kernel)).trans (lkY)))
theorem Tm.lk_known_workers (m : Tm) : m.fs.lookup ("known_workers" : Str) = some (.ref m.kw) := (lkN (by decide +kernel)).trans ((lkN (by decide +kernel)).trans ((lkN (by decide +kernel)).trans ((lkN (by decide +kernel)).trans (lkY))))
theorem Tm.lk_owners (m : Tm) : m.fs.lookup ("owners" : Str) = some (.ref m.ow) := (lkN (by decide +kernel)).trans ((lkN (by decide +kernel)).trans ((lkN (by decide +kernel)).trans ((lkN (by decide +kernel)).trans ((lkN (by decide +kernel)).trans (lkY)))))
theorem Tm.lk_entries (m : Tm) : m.fs.lookup ("entries" : Str) = some (.ref m.en) := (lkN (by decide +kernel)).trans ((lkN (by decide +kernel)).trans ((lkN (by decide +kernel)).trans ((lkN (by decide +kernel)).trans ((lkN (by decide +kernel)).trans ((lkN (by decide +kernel)).trans (lkY))))))
theorem Tm.lk_rounds_done (m : Tm) : m.fs.lookup ("rounds_done" : Str) = some (.int m.r) := (lkN (by decide +kernel)).trans ((lkN (by decide +kernel)).trans ((lkN (by decide +kernel)).trans ((lkN (by decide +kernel)).trans ((lkN (by decide +kernel)).trans ((lkN (by decide +kernel)).trans ((lkN (by decide +kernel)).trans (lkY)))))))
theorem Tm.no_check_worker (m : Tm) : m.fs.lookup ("check_worker" : Str) = none := (lkN (by decide +kernel)).trans ((lkN (by decide +kernel)).trans ((lkN (by decide +kernel)).trans ((lkN (by decide +kernel)).trans ((lkN (by decide +kernel)).trans ((lkN (by decide +kernel)).trans ((lkN (by decide +kernel)).trans ((lkN (by decide +kernel)).trans (rfl))))))))
theorem Tm.no_value_for (m : Tm) : m.fs.lookup ("value_for" : Str) = none := (lkN (by decide +kernel)).trans ((lkN (by decide +kernel)).trans ((lkN (by decide +kernel)).trans ((lkN (by decide +kernel)).trans ((lkN (by decide +kernel)).trans ((lkN (by decide +kernel)).trans ((lkN (by decide +kernel)).trans ((lkN (by decide +kernel)).trans (rfl))))))))
theorem Tm.no_perform_round (m : Tm) : m.fs.lookup ("perform_round" : Str) = none := (lkN (by decide +kernel)).trans ((lkN (by decide +kernel)).trans ((lkN (by decide +kernel)).trans ((lkN (by decide +kernel)).trans ((lkN (by decide +kernel)).trans ((lkN (by decide +kernel)).trans ((lkN (by decide +kernel)).trans ((lkN (by decide +kernel)).trans (rfl))))))))
theorem Tm.no_assign (m : Tm) : m.fs.lookup ("assign" : Str) = none := (lkN (by decide +kernel)).trans ((lkN (by decide +kernel)).trans ((lkN (by decide +kernel)).trans ((lkN (by decide +kernel)).trans ((lkN (by decide +kernel)).trans ((lkN (by decide +kernel)).trans ((lkN (by decide +kernel)).trans ((lkN (by decide +kernel)).trans (rfl))))))))
theorem Tm.no_move (m : Tm) : m.fs.lookup ("move" : Str) = none := (lkN (by decide +kernel)).trans ((lkN (by decide +kernel)).trans ((lkN (by decide +kernel)).trans ((lkN (by decide +kernel)).trans ((lkN (by decide +kernel)).trans ((lkN (by decide +kernel)).trans ((lkN (by decide +kernel)).trans ((lkN (by decide +kernel)).trans (rfl))))))))
theorem Tm.no_move_together (m : Tm) : m.fs.lookup ("move_together" : Str) = none := (lkN (by decide +kernel)).trans ((lkN (by decide +kernel)).trans ((lkN (by decide +kernel)).trans ((lkN (by decide +kernel)).trans ((lkN (by decide +kernel)).trans ((lkN (by decide +kernel)).trans ((lkN (by decide +kernel)).trans ((lkN (by decide +kernel)).trans (rfl))))))))
theorem Tm.no_available (m : Tm) : m.fs.lookup ("available" : Str) = none := (lkN (by decide +kernel)).trans ((lkN (by decide +kernel)).trans ((lkN (by decide +kernel)).trans ((lkN (by decide +kernel)).trans ((lkN (by decide +kernel)).trans ((lkN (by decide +kernel)).trans ((lkN (by decide +kernel)).trans ((lkN (by decide +kernel)).trans (rfl))))))))
theorem Tm.no_waits_for (m : Tm) : m.fs.lookup ("waits_for" : Str) = none := (lkN (by decide +kernel)).trans ((lkN (by decide +kernel)).trans ((lkN (by decide +kernel)).trans ((lkN (by decide +kernel)).trans ((lkN (by decide +kernel)).trans ((lkN (by decide +kernel)).trans ((lkN (by decide +kernel)).trans ((lkN (by decide +kernel)).trans (rfl))))))))
theorem Tm.put_current (m : Tm) (v : Addr) : putF ("current" : Str) (.ref v) m.fs = { m with cu := v }.fs := (putN (by decide +kernel)).trans (congrArg _ (putY))
theorem Tm.put_rest (m : Tm) (v : Addr) : putF ("rest" : Str) (.ref v) m.fs = { m with re := v }.fs := (putN (by decide +kernel)).trans (congrArg _ ((putN (by decide +kernel)).trans (congrArg _ (putY))))
theorem Tm.put_entries (m : Tm) (v : Addr) : putF ("entries" : Str) (.ref v) m.fs = { m with en := v }.fs := (putN (by decide +kernel)).trans (congrArg _ ((putN (by decide +kernel)).trans (congrArg _ ((putN (by decide +kernel)).trans (congrArg _ ((putN (by decide +kernel)).trans (congrArg _ ((putN (by decide +kernel)).trans (congrArg _ ((putN (by decide +kernel)).trans (congrArg _ (putY))))))))))))
theorem Tm.put_rounds_done (m : Tm) (v : Int) : putF ("rounds_done" : Str) (.int v) m.fs = { m with r := v }.fs := (putN (by decide +kernel)).trans (congrArg _ ((putN (by decide +kernel)).trans (congrArg _ ((putN (by decide +kernel)).trans (congrArg _ ((putN (by decide +kernel)).trans (congrArg _ ((putN (by decide +kernel)).trans (congrArg _ ((putN (by decide +kernel)).trans (congrArg _ ((putN (by decide +kernel)).trans (congrArg _ (putY))))))))))))))
theorem Tm.get_own_graph {K : PySem.W.Frag} {C : Addr} {m : Tm} {H : Hp} {R : V → Prop} (T : TmC K C) (h : H m.t = some (.ins C m.dx m.fs)) (q : R (.ref m.g)) : ∃ a C dx fs v, V.ref m.t = .ref a ∧ H a = some (.ins C dx fs) ∧ Cls K C ∧ NoAttr K C "own_graph" ∧ fs.lookup ("own_graph" : Str) = some v ∧ R v := ⟨m.t, C, m.dx, m.fs, _, rfl, h, T.cl, T.no_own_graph, m.lk_own_graph, q⟩
theorem Tm.get_current {K : PySem.W.Frag} {C : Addr} {m : Tm} {H : Hp} {R : V → Prop} (T : TmC K C) (h : H m.t = some (.ins C m.dx m.fs)) (q : R (.ref m.cu)) : ∃ a C dx fs v, V.ref m.t = .ref a ∧ H a = some (.ins C dx fs) ∧ Cls K C ∧ NoAttr K C "current" ∧ fs.lookup ("current" : Str) = some v ∧ R v := ⟨m.t, C, m.dx, m.fs, _, rfl, h, T.cl, T.no_current, m.lk_current, q⟩
theorem Tm.set_current {K : PySem.W.Frag} {C : Addr} {m : Tm} {H : Hp} {v : Addr} {R : Hp → Prop} (T : TmC K C) (h : H m.t = some (.ins C m.dx m.fs)) (q : R (upd H m.t (.ins C m.dx { m with cu := v }.fs))) : ∃ a C dx fs, V.ref m.t = .ref a ∧ H a = some (.ins C dx fs) ∧ Cls K C ∧ NoAttr K C "current" ∧ fs.length < 1000 ∧ R (upd H a (.ins C dx (putF ("current" : Str) (.ref v) fs))) := ⟨m.t, C, m.dx, m.fs, rfl, h, T.cl, T.no_current, (by show 8 < 1000; decide), (by rw [m.put_current]; exact q)⟩
theorem Tm.get_rest {K : PySem.W.Frag} {C : Addr} {m : Tm} {H : Hp} {R : V → Prop} (T : TmC K C) (h : H m.t = some (.ins C m.dx m.fs)) (q : R (.ref m.re)) : ∃ a C dx fs v, V.ref m.t = .ref a ∧ H a = some (.ins C dx fs) ∧ Cls K C ∧ NoAttr K C "rest" ∧ fs.lookup ("rest" : Str) = some v ∧ R v := ⟨m.t, C, m.dx, m.fs, _, rfl, h, T.cl, T.no_rest, m.lk_rest, q⟩
theorem Tm.set_rest {K : PySem.W.Frag} {C : Addr} {m : Tm} {H : Hp} {v : Addr} {R : Hp → Prop} (T : TmC K C) (h : H m.t = some (.ins C m.dx m.fs)) (q : R (upd H m.t (.ins C m.dx { m with re := v }.fs))) : ∃ a C dx fs, V.ref m.t = .ref a ∧ H a = some (.ins C dx fs) ∧ Cls K C ∧ NoAttr K C "rest" ∧ fs.length < 1000 ∧ R (upd H a (.ins C dx (putF ("rest" : Str) (.ref v) fs))) := ⟨m.t, C, m.dx, m.fs, rfl, h, T.cl, T.no_rest, (by show 8 < 1000; decide), (by rw [m.put_rest]; exact q)⟩
theorem Tm.get_own_pins {K : PySem.W.Frag} {C : Addr} {m : Tm} {H : Hp} {R : V → Prop} (T : TmC K C) (h : H m.t = some (.ins C m.dx m.fs)) (q : R (.ref m.ps)) : ∃ a C dx fs v, V.ref m.t = .ref a ∧ H a = some (.ins C dx fs) ∧ Cls K C ∧ NoAttr K C "own_pins" ∧ fs.lookup ("own_pins" : Str) = some v ∧ R v := ⟨m.t, C, m.dx, m.fs, _, rfl, h, T.cl, T.no_own_pins, m.lk_own_pins, q⟩
theorem Tm.get_known_workers {K : PySem.W.Frag} {C : Addr} {m : Tm} {H : Hp} {R : V → Prop} (T : TmC K C) (h : H m.t = some (.ins C m.dx m.fs)) (q : R (.ref m.kw)) : ∃ a C dx fs v, V.ref m.t = .ref a ∧ H a = some (.ins C dx fs) ∧ Cls K C ∧ NoAttr K C "known_workers" ∧ fs.lookup ("known_workers" : Str) = some v ∧ R v := ⟨m.t, C, m.dx, m.fs, _, rfl, h, T.cl, T.no_known_workers, m.lk_known_workers, q⟩
theorem Tm.get_owners {K : PySem.W.Frag} {C : Addr} {m : Tm} {H : Hp} {R : V → Prop} (T : TmC K C) (h : H m.t = some (.ins C m.dx m.fs)) (q : R (.ref m.ow)) : ∃ a C dx fs v, V.ref m.t = .ref a ∧ H a = some (.ins C dx fs) ∧ Cls K C ∧ NoAttr K C "owners" ∧ fs.lookup ("owners" : Str) = some v ∧ R v := ⟨m.t, C, m.dx, m.fs, _, rfl, h, T.cl, T.no_owners, m.lk_owners, q⟩
theorem Tm.get_rounds_done {K : PySem.W.Frag} {C : Addr} {m : Tm} {H : Hp} {R : V → Prop} (T : TmC K C) (h : H m.t = some (.ins C m.dx m.fs)) (q : R (.int m.r)) : ∃ a C dx fs v, V.ref m.t = .ref a ∧ H a = some (.ins C dx fs) ∧ Cls K C ∧ NoAttr K C "rounds_done" ∧ fs.lookup ("rounds_done" : Str) = some v ∧ R v := ⟨m.t, C, m.dx, m.fs, _, rfl, h, T.cl, T.no_rounds_done, m.lk_rounds_done, q⟩
theorem Tm.call_check_worker {C : Addr} {m : Tm} {H : Hp} {R : Prop} (h : H m.t = some (.ins C m.dx m.fs)) (q : R) : ∃ a dx fs, V.ref m.t = .ref a ∧ H a = some (.ins C dx fs) ∧ fs.lookup ("check_worker" : Str) = none ∧ R := ⟨m.t, m.dx, m.fs, rfl, h, m.no_check_worker, q⟩
theorem Tm.call_value_for {C : Addr} {m : Tm} {H : Hp} {R : Prop} (h : H m.t = some (.ins C m.dx m.fs)) (q : R) : ∃ a dx fs, V.ref m.t = .ref a ∧ H a = some (.ins C dx fs) ∧ fs.lookup ("value_for" : Str) = none ∧ R := ⟨m.t, m.dx, m.fs, rfl, h, m.no_value_for, q⟩
theorem Tm.call_perform_round {C : Addr} {m : Tm} {H : Hp} {R : Prop} (h : H m.t = some (.ins C m.dx m.fs)) (q : R) : ∃ a dx fs, V.ref m.t = .ref a ∧ H a = some (.ins C dx fs) ∧ fs.lookup ("perform_round" : Str) = none ∧ R := ⟨m.t, m.dx, m.fs, rfl, h, m.no_perform_round, q⟩
theorem Tm.call_assign {C : Addr} {m : Tm} {H : Hp} {R : Prop} (h : H m.t = some (.ins C m.dx m.fs)) (q : R) : ∃ a dx fs, V.ref m.t = .ref a ∧ H a = some (.ins C dx fs) ∧ fs.lookup ("assign" : Str) = none ∧ R := ⟨m.t, m.dx, m.fs, rfl, h, m.no_assign, q⟩
theorem Tm.call_move {C : Addr} {m : Tm} {H : Hp} {R : Prop} (h : H m.t = some (.ins C m.dx m.fs)) (q : R) : ∃ a dx fs, V.ref m.t = .ref a ∧ H a = some (.ins C dx fs) ∧ fs.lookup ("move" : Str) = none ∧ R := ⟨m.t, m.dx, m.fs, rfl, h, m.no_move, q⟩
theorem Tm.call_move_together {C : Addr} {m : Tm} {H : Hp} {R : Prop} (h : H m.t = some (.ins C m.dx m.fs)) (q : R) : ∃ a dx fs, V.ref m.t = .ref a ∧ H a = some (.ins C dx fs) ∧ fs.lookup ("move_together" : Str) = none ∧ R := ⟨m.t, m.dx, m.fs, rfl, h, m.no_move_together, q⟩
theorem Tm.call_available {C : Addr} {m : Tm} {H : Hp} {R : Prop} (h : H m.t = some (.ins C m.dx m.fs)) (q : R) : ∃ a dx fs, V.ref m.t = .ref a ∧ H a = some (.ins C dx fs) ∧ fs.lookup ("available" : Str) = none ∧ R := ⟨m.t, m.dx, m.fs, rfl, h, m.no_available, q⟩
theorem Tm.call_waits_for {C : Addr} {m : Tm} {H : Hp} {R : Prop} (h : H m.t = some (.ins C m.dx m.fs)) (q : R) : ∃ a dx fs, V.ref m.t = .ref a ∧ H a = some (.ins C dx fs) ∧ fs.lookup ("waits_for" : Str) = none ∧ R := ⟨m.t, m.dx, m.fs, rfl, h, m.no_waits_for, q⟩
end Law

namespace Law
open PySem PySem.Spec PyProof.Rows L2 U
def top (i : Nat) : Stmt := PySem.Challenge.pw_threeturned_k87_waiting_nodes.main.body.getD i (.Pass ⟨0, 0, 0, 0⟩)
abbrev s_UnknownNode_init : Stmt := inClass (top 7) 0
theorem sc_UnknownNode_init : FnScope ["self", "node"] ["self", "node"] (defScope s_UnknownNode_init) := ⟨rfl, rfl, rfl, by decide +kernel, rfl, by decide +kernel, by decide +kernel⟩
abbrev s_UnknownWorker_init : Stmt := inClass (top 8) 0
theorem sc_UnknownWorker_init : FnScope ["self", "worker"] ["self", "worker"] (defScope s_UnknownWorker_init) := ⟨rfl, rfl, rfl, by decide +kernel, rfl, by decide +kernel, by decide +kernel⟩
abbrev s_is_node : Stmt := top 12
abbrev nN_is_node : List Str := ["candidate", "letter"]
theorem sc_is_node : FnScope ["candidate", "letter"] ["candidate"] (defScope s_is_node) := ⟨rfl, rfl, rfl, by decide +kernel, rfl, by decide +kernel, by decide +kernel⟩
abbrev s_has_node : Stmt := top 13
theorem sc_has_node : FnScope ["graph", "candidate"] ["graph", "candidate"] (defScope s_has_node) := ⟨rfl, rfl, rfl, by decide +kernel, rfl, by decide +kernel, by decide +kernel⟩
abbrev s_check_node : Stmt := top 14
theorem sc_check_node : FnScope ["graph", "candidate"] ["graph", "candidate"] (defScope s_check_node) := ⟨rfl, rfl, rfl, by decide +kernel, rfl, by decide +kernel, by decide +kernel⟩
abbrev s_adjacency : Stmt := top 15
abbrev nN_adjacency : List Str := ["graph", "nodes", "edges", "found", "node", "one", "other", "some"]
theorem sc_adjacency : FnScope ["graph", "nodes", "edges", "found", "node", "one", "other", "some"] ["graph"] (defScope s_adjacency) := ⟨rfl, rfl, rfl, by decide +kernel, rfl, by decide +kernel, by decide +kernel⟩
abbrev s_neighbors : Stmt := top 16
theorem sc_neighbors : FnScope ["graph", "node"] ["graph", "node"] (defScope s_neighbors) := ⟨rfl, rfl, rfl, by decide +kernel, rfl, by decide +kernel, by decide +kernel⟩
abbrev s_slope : Stmt := top 20
theorem sc_slope : FnScope ["state", "node", "neighbor"] ["state", "node", "neighbor"] (defScope s_slope) := ⟨rfl, rfl, rfl, by decide +kernel, rfl, by decide +kernel, by decide +kernel⟩
abbrev s_sloped_paths : Stmt := top 21
theorem sc_sloped_paths : FnScope ["graph", "state", "node", "direction", "adjacent", "found", "queue", "position", "current", "other"] ["graph", "state", "node", "direction"] (defScope s_sloped_paths) := ⟨rfl, rfl, rfl, by decide +kernel, rfl, by decide +kernel, by decide +kernel⟩
abbrev s_smallest_path : Stmt := top 22
theorem sc_smallest_path : FnScope ["paths"] ["paths"] (defScope s_smallest_path) := ⟨rfl, rfl, rfl, by decide +kernel, rfl, by decide +kernel, by decide +kernel⟩
abbrev s_cycle_at : Stmt := top 23
abbrev nN_cycle_at : List Str := ["graph", "state", "node", "paths", "ends", "one"]
theorem sc_cycle_at : FnScope ["graph", "state", "node", "paths", "ends", "one"] ["graph", "state", "node"] (defScope s_cycle_at) := ⟨rfl, rfl, rfl, by decide +kernel, rfl, by decide +kernel, by decide +kernel⟩
abbrev s_cycle_nodes : Stmt := top 24
abbrev nN_cycle_nodes : List Str := ["graph", "state", "node"]
theorem sc_cycle_nodes : FnScope ["graph", "state", "node"] ["graph", "state"] (defScope s_cycle_nodes) := ⟨rfl, rfl, rfl, by decide +kernel, rfl, by decide +kernel, by decide +kernel⟩
abbrev s_find_anchors : Stmt := top 26
abbrev nN_find_anchors : List Str := ["graph", "state", "pinned", "on_cycles", "node"]
theorem sc_find_anchors : FnScope ["graph", "state", "pinned", "on_cycles", "node"] ["graph", "state", "pinned"] (defScope s_find_anchors) := ⟨rfl, rfl, rfl, by decide +kernel, rfl, by decide +kernel, by decide +kernel⟩
abbrev s_is_integer : Stmt := top 28
theorem sc_is_integer : FnScope ["candidate"] ["candidate"] (defScope s_is_integer) := ⟨rfl, rfl, rfl, by decide +kernel, rfl, by decide +kernel, by decide +kernel⟩
abbrev s_is_number_dict : Stmt := top 30
abbrev nN_is_number_dict : List Str := ["graph", "candidate", "node"]
theorem sc_is_number_dict : FnScope ["graph", "candidate", "node"] ["graph", "candidate"] (defScope s_is_number_dict) := ⟨rfl, rfl, rfl, by decide +kernel, rfl, by decide +kernel, by decide +kernel⟩
abbrev s_fits_edge : Stmt := top 31
theorem sc_fits_edge : FnScope ["state", "lift", "one", "other", "upper", "lower"] ["state", "lift", "one", "other"] (defScope s_fits_edge) := ⟨rfl, rfl, rfl, by decide +kernel, rfl, by decide +kernel, by decide +kernel⟩
abbrev s_is_lift : Stmt := top 32
abbrev nN_is_lift : List Str := ["graph", "state", "candidate", "one", "other"]
theorem sc_is_lift : FnScope ["graph", "state", "candidate", "one", "other"] ["graph", "state", "candidate"] (defScope s_is_lift) := ⟨rfl, rfl, rfl, by decide +kernel, rfl, by decide +kernel, by decide +kernel⟩
abbrev s_progress_value : Stmt := top 34
abbrev nN_progress_value : List Str := ["state", "adjacent", "node", "number", "direction", "other"]
theorem sc_progress_value : FnScope ["state", "adjacent", "node", "number", "direction", "other"] ["state", "adjacent", "node", "number"] (defScope s_progress_value) := ⟨rfl, rfl, rfl, by decide +kernel, rfl, by decide +kernel, by decide +kernel⟩
abbrev s_progress_moves_with : Stmt := top 35
theorem sc_progress_moves_with : FnScope ["graph", "state", "adjacent", "lift", "pinned", "moves", "node", "value"] ["graph", "state", "adjacent", "lift", "pinned"] (defScope s_progress_moves_with) := ⟨rfl, rfl, rfl, by decide +kernel, rfl, by decide +kernel, by decide +kernel⟩
abbrev s_progress_moves : Stmt := top 36
theorem sc_progress_moves : FnScope ["graph", "state", "lift", "pinned"] ["graph", "state", "lift", "pinned"] (defScope s_progress_moves) := ⟨rfl, rfl, rfl, by decide +kernel, rfl, by decide +kernel, by decide +kernel⟩
abbrev s_closer_to_zero : Stmt := top 37
theorem sc_closer_to_zero : FnScope ["number"] ["number"] (defScope s_closer_to_zero) := ⟨rfl, rfl, rfl, by decide +kernel, rfl, by decide +kernel, by decide +kernel⟩
abbrev s_check_lift : Stmt := top 38
theorem sc_check_lift : FnScope ["graph", "state", "lift", "pinned", "node"] ["graph", "state", "lift", "pinned"] (defScope s_check_lift) := ⟨rfl, rfl, rfl, by decide +kernel, rfl, by decide +kernel, by decide +kernel⟩
abbrev s_after_moves : Stmt := top 40
theorem sc_after_moves : FnScope ["state", "lift", "moves", "new_state", "remaining", "node", "value"] ["state", "lift", "moves"] (defScope s_after_moves) := ⟨rfl, rfl, rfl, by decide +kernel, rfl, by decide +kernel, by decide +kernel⟩
abbrev s_check_distinct : Stmt := top 41
theorem sc_check_distinct : FnScope ["nodes", "position", "node"] ["nodes"] (defScope s_check_distinct) := ⟨rfl, rfl, rfl, by decide +kernel, rfl, by decide +kernel, by decide +kernel⟩
abbrev c_Team : Stmt := top 43
abbrev s_Team_init : Stmt := inClass (top 43) 0
theorem sc_Team_init : FnScope ["self", "graph", "state", "lift", "pinned"] ["self", "graph", "state", "lift", "pinned"] (defScope s_Team_init) := ⟨rfl, rfl, rfl, by decide +kernel, rfl, by decide +kernel, by decide +kernel⟩
abbrev s_Team_check_worker : Stmt := inClass (top 43) 2
theorem sc_Team_check_worker : FnScope ["self", "worker"] ["self", "worker"] (defScope s_Team_check_worker) := ⟨rfl, rfl, rfl, by decide +kernel, rfl, by decide +kernel, by decide +kernel⟩
abbrev s_Team_value_for : Stmt := inClass (top 43) 3
theorem sc_Team_value_for : FnScope ["self", "worker", "node", "other", "value"] ["self", "worker", "node"] (defScope s_Team_value_for) := ⟨rfl, rfl, rfl, by decide +kernel, rfl, by decide +kernel, by decide +kernel⟩
abbrev s_Team_perform_round : Stmt := inClass (top 43) 4
abbrev nN_Team_perform_round : List Str := ["self", "pairs", "values", "moves", "pair", "value"]
theorem sc_Team_perform_round : FnScope ["self", "pairs", "values", "moves", "pair", "value"] ["self", "pairs", "values"] (defScope s_Team_perform_round) := ⟨rfl, rfl, rfl, by decide +kernel, rfl, by decide +kernel, by decide +kernel⟩
abbrev s_Team_assign : Stmt := inClass (top 43) 5
theorem sc_Team_assign : FnScope ["self", "worker", "nodes", "node"] ["self", "worker", "nodes"] (defScope s_Team_assign) := ⟨rfl, rfl, rfl, by decide +kernel, rfl, by decide +kernel, by decide +kernel⟩
abbrev s_Team_move : Stmt := inClass (top 43) 6
theorem sc_Team_move : FnScope ["self", "worker", "node"] ["self", "worker", "node"] (defScope s_Team_move) := ⟨rfl, rfl, rfl, by decide +kernel, rfl, by decide +kernel, by decide +kernel⟩
abbrev s_Team_move_together : Stmt := inClass (top 43) 7
abbrev nN_Team_move_together : List Str := ["self", "pairs", "values", "worker", "node"]
theorem sc_Team_move_together : FnScope ["self", "pairs", "values", "worker", "node"] ["self", "pairs"] (defScope s_Team_move_together) := ⟨rfl, rfl, rfl, by decide +kernel, rfl, by decide +kernel, by decide +kernel⟩
abbrev s_Team_available : Stmt := inClass (top 43) 9
abbrev nN_Team_available : List Str := ["self", "worker", "moves", "move"]
theorem sc_Team_available : FnScope ["self", "worker", "moves", "move"] ["self", "worker"] (defScope s_Team_available) := ⟨rfl, rfl, rfl, by decide +kernel, rfl, by decide +kernel, by decide +kernel⟩
abbrev s_Team_waits_for : Stmt := inClass (top 43) 10
abbrev nN_Team_waits_for : List Str := ["self", "node", "direction", "other"]
theorem sc_Team_waits_for : FnScope ["self", "node", "direction", "other"] ["self", "node"] (defScope s_Team_waits_for) := ⟨rfl, rfl, rfl, by decide +kernel, rfl, by decide +kernel, by decide +kernel⟩
abbrev s__law_box : Stmt := top 45
abbrev nN__law_box : List Str := ["_law_script", "_law_cell"]
theorem sc__law_box : FnScope ["_law_script", "_law_cell"] ["_law_script"] (defScope s__law_box) := ⟨rfl, rfl, rfl, by decide +kernel, rfl, by decide +kernel, by decide +kernel⟩
abbrev s__law_draw : Stmt := top 46
theorem sc__law_draw : FnScope ["_law_source", "_law_count", "_law_cell", "_law_found"] ["_law_source", "_law_count"] (defScope s__law_draw) := ⟨rfl, rfl, rfl, by decide +kernel, rfl, by decide +kernel, by decide +kernel⟩
abbrev s__law_stem : Stmt := top 47
abbrev nN__law_stem : List Str := ["_law_source", "_law_k"]
theorem sc__law_stem : FnScope ["_law_source", "_law_k"] ["_law_source"] (defScope s__law_stem) := ⟨rfl, rfl, rfl, by decide +kernel, rfl, by decide +kernel, by decide +kernel⟩
abbrev s__law_random_names : Stmt := top 48
theorem sc__law_random_names : FnScope ["_law_source", "_law_count", "_law_front", "_law_alike", "_law_shift", "_law_step", "_law_stem_here", "_law_words", "_law_k", "_law_letter"] ["_law_source", "_law_count"] (defScope s__law_random_names) := ⟨rfl, rfl, rfl, by decide +kernel, rfl, by decide +kernel, by decide +kernel⟩
abbrev s__law_random_problem : Stmt := top 49
abbrev nN__law_random_problem : List Str := ["_law_source", "_law_most", "_law_values", "_law_pairs", "_law_k", "_law_value", "_law_direction", "_law_near", "_law_density", "_law_words", "_law_edges", "_law_one", "_law_other", "_law_state", "_law_share", "_law_pins", "_law_word"]
theorem sc__law_random_problem : FnScope ["_law_source", "_law_most", "_law_values", "_law_pairs", "_law_k", "_law_value", "_law_direction", "_law_near", "_law_density", "_law_words", "_law_edges", "_law_one", "_law_other", "_law_state", "_law_share", "_law_pins", "_law_word"] ["_law_source", "_law_most"] (defScope s__law_random_problem) := ⟨rfl, rfl, rfl, by decide +kernel, rfl, by decide +kernel, by decide +kernel⟩
abbrev s__law_neighbors : Stmt := top 50
abbrev nN__law_neighbors : List Str := ["_law_graph", "_law_node", "_law_one", "_law_other"]
theorem sc__law_neighbors : FnScope ["_law_graph", "_law_node", "_law_one", "_law_other"] ["_law_graph", "_law_node"] (defScope s__law_neighbors) := ⟨rfl, rfl, rfl, by decide +kernel, rfl, by decide +kernel, by decide +kernel⟩
abbrev s__law_possible : Stmt := top 51
abbrev nN__law_possible : List Str := ["_law_graph", "_law_state", "_law_pins", "_law_node", "_law_seen", "_law_other", "_law_value"]
theorem sc__law_possible : FnScope ["_law_graph", "_law_state", "_law_pins", "_law_node", "_law_seen", "_law_other", "_law_value"] ["_law_graph", "_law_state", "_law_pins", "_law_node"] (defScope s__law_possible) := ⟨rfl, rfl, rfl, by decide +kernel, rfl, by decide +kernel, by decide +kernel⟩
abbrev s__law_random_lift : Stmt := top 52
theorem sc__law_random_lift : FnScope ["_law_source", "_law_graph", "_law_state", "_law_pins", "_law_size", "_law_sign_mode", "_law_wanted", "_law_lift", "_law_node", "_law_amount", "_law_current", "_law_k", "_law_expected", "_law_value"] ["_law_source", "_law_graph", "_law_state", "_law_pins", "_law_size"] (defScope s__law_random_lift) := ⟨rfl, rfl, rfl, by decide +kernel, rfl, by decide +kernel, by decide +kernel⟩
abbrev s__law_expected_waits : Stmt := top 53
abbrev nN__law_expected_waits : List Str := ["_law_graph", "_law_current", "_law_remaining", "_law_node", "_law_expected", "_law_one"]
theorem sc__law_expected_waits : FnScope ["_law_graph", "_law_current", "_law_remaining", "_law_node", "_law_expected", "_law_one"] ["_law_graph", "_law_current", "_law_remaining", "_law_node"] (defScope s__law_expected_waits) := ⟨rfl, rfl, rfl, by decide +kernel, rfl, by decide +kernel, by decide +kernel⟩
abbrev s__law_call : Stmt := top 54
theorem sc__law_call : FnScope ["_law_team", "_law_candidate", "_law_direction", "_law_found", "e"] ["_law_team", "_law_candidate", "_law_direction"] (defScope s__law_call) := ⟨rfl, rfl, rfl, by decide +kernel, rfl, by decide +kernel, by decide +kernel⟩
abbrev s__law_same_twice : Stmt := top 55
theorem sc__law_same_twice : FnScope ["_law_team", "_law_candidate", "_law_direction", "_law_expected", "_law_turn", "_law_known"] ["_law_team", "_law_candidate", "_law_direction", "_law_expected"] (defScope s__law_same_twice) := ⟨rfl, rfl, rfl, by decide +kernel, rfl, by decide +kernel, by decide +kernel⟩
abbrev s__law_unused_name : Stmt := top 56
abbrev nN__law_unused_name : List Str := ["_law_graph", "_law_letter"]
theorem sc__law_unused_name : FnScope ["_law_graph", "_law_letter"] ["_law_graph"] (defScope s__law_unused_name) := ⟨rfl, rfl, rfl, by decide +kernel, rfl, by decide +kernel, by decide +kernel⟩
abbrev s_law : Stmt := top 57
theorem sc_law : FnScope ["_law_script", "_law_source", "_law_graph", "_law_state", "_law_pins", "_law_lift", "_law_team", "_law_wrong", "_law_direction", "_law_current", "_law_remaining", "_law_k", "_law_able", "_law_node", "_law_expected", "_law_value"] ["_law_script"] (defScope s_law) := ⟨rfl, rfl, rfl, by decide +kernel, rfl, by decide +kernel, by decide +kernel⟩
end Law

section
open PySem PySem.Spec PyProof.Rows L2 U
local macro_rules | `(tactic| wtm_at "rd1") => `(tactic| first
  | with_reducible refine rd_seq ?_
  | ((with_reducible refine rd_var (v := ?vv) ?hv ?_); (case hv => exact rfl))
  | with_reducible refine rd_c ?_
  | with_reducible refine rd_cons ?_
  | with_reducible refine rd_nil ?_
  | with_reducible refine rd_op ?_
  | with_reducible refine rd_asg ?_
  | with_reducible refine rd_name ?_
  | with_reducible refine rd_c1 ?_
  | with_reducible refine rd_cb ?_
  | with_reducible refine rd_test ?_
  | with_reducible refine rd_B ?_
  | with_reducible refine rd_bl ?_
  | with_reducible refine rd_if ?_
  | with_reducible refine rd_ret ?_
  | with_reducible refine rd_drop ?_
  | with_reducible refine rd_next ?_
  | with_reducible refine rd_addI ?_
  | with_reducible refine rd_ltI ?_
  | with_reducible refine rd_eqI ?_
  | with_reducible refine rd_neI ?_
  | with_reducible refine rd_eqS ?_
  | with_reducible refine rd_neS ?_
  | with_reducible refine rd_gtI ?_
  | with_reducible refine rd_geI ?_
  | with_reducible refine rd_leI ?_
  | with_reducible refine rd_ltS ?_
  | with_reducible refine rd_subI ?_
  | ((with_reducible refine rd_modI ?hc ?_); (case hc => first | decide | omega))
  | ((with_reducible refine rd_mulI ?hc ?_); (case hc => first | exact mul_bI | exact .inl (.inr (by decide)) | exact .inl (.inl (by decide)) | exact .inl (.inr (by omega)) | exact .inl (.inl (by omega))))
  | ((with_reducible refine rd_divI ?hc ?_); (case hc => first | decide | omega))
  | ((with_reducible refine rd_powI ?hc ?_); (case hc => exact ⟨by decide, by decide, by decide⟩))
  | with_reducible refine rd_lst ?_
  | with_reducible refine rd_tup ?_
  | ((with_reducible refine rd_sz ?hv ?_); (case hv => exact rfl))
  | with_reducible refine rd_and ?_
  | with_reducible refine rd_or ?_
  | with_reducible refine rd_not ?_
  | with_reducible refine rd_andV ?_
  | with_reducible refine rd_orV ?_
  | with_reducible refine rd_notV ?_
  | with_reducible refine rd_ifE ?_
  | with_reducible refine rd_T ?_
  | with_reducible refine rd_F ?_
  | with_reducible refine rd_chain ?_
  | with_reducible refine rd_is ?_
  | with_reducible refine rd_isNot ?_
  | with_reducible refine rd_absI ?_
  | with_reducible refine rd_maxI ?_
  | with_reducible refine rd_minI ?_
  | with_reducible refine rd_intI ?_
  | with_reducible refine rd_intB ?_
  | with_reducible refine rd_sub ?_
  | with_reducible refine rd_sl ?_
  | with_reducible refine rd_noPart ?_
  | with_reducible refine rd_part ?_
  | with_reducible refine rd_exI ?_
  | with_reducible refine rd_bm ?_
  | with_reducible refine rd_bm0 ?_
  | with_reducible refine rd_un ?_
  | with_reducible refine rd_neg ?_
  | with_reducible refine rd_c2 ?_
  | with_reducible refine rd_retN ?_
  | with_reducible refine rd_break ?_
  | with_reducible refine rd_cont ?_
  | with_reducible refine rd_for ?_
  | with_reducible refine rd_rng1 ?_
  | with_reducible refine rd_rng2 ?_
  | with_reducible refine rd_iList ?_
  | with_reducible refine rd_iTup ?_
  | with_reducible refine rd_iEnum ?_
  | ((with_reducible refine rd_forR ?h0 ?h1 ?_); (case h0 => omega); (case h1 => omega))
  | with_reducible refine rd_lc ?_
  | with_reducible refine rd_gcons ?_
  | with_reducible refine rd_gnil ?_
  | with_reducible refine rd_dget ?_
  | with_reducible refine rd_dput ?_
  | with_reducible refine rd_dnew ?_
  | with_reducible refine rd_dc ?_
  | with_reducible refine rd_iItems ?_
  | with_reducible refine rd_iKeys ?_
  | with_reducible refine rd_din ?_
  | with_reducible refine rd_lc2 ?_
  | with_reducible refine rd_cd ?_
  | with_reducible refine rd_par ?_
  | with_reducible refine rd_two ?_
  | with_reducible refine rd_reprB ?_
  | with_reducible refine rd_ck ?_
  | ((with_reducible refine rd_len ?hl ?_); (case hl => exact rfl))
  | with_reducible refine rd_nT ?_
  | with_reducible refine rd_nF ?_
  | with_reducible refine rd_dnin ?_
  | with_reducible refine rd_isB ?_
  | with_reducible refine rd_isNotB ?_
  | with_reducible refine rd_daug ?_
  | with_reducible refine rd_yesT ?_
  | ((with_reducible refine rd_wp ?hw ?_); (case hw => exact rfl)))
local macro_rules | `(tactic| wtm_at "rd") => `(tactic| repeat wtm_at "rd1")
namespace Law
open PySem PySem.Spec PyProof.Rows L2 U

/-- the names of the world are the world's -/
structure Bt (mg : Str → Option Value) : Prop where
  len : mg "len" = none
  abs : mg "abs" = none
  max : mg "max" = none
  min : mg "min" = none
  sorted : mg "sorted" = none
  isinstance : mg "isinstance" = none
  int : mg "int" = none
  list : mg "list" = none
  tuple : mg "tuple" = none
  str : mg "str" = none
  range : mg "range" = none
  enumerate : mg "enumerate" = none
  dict : mg "dict" = none
  sum : mg "sum" = none
  all : mg "all" = none
  any : mg "any" = none
  repr : mg "repr" = none
  set : mg "set" = none
  zip : mg "zip" = none
  reversed : mg "reversed" = none
/-- a source of draws: the cells, how many are used, what is left of a great one, the seed -/
abbrev srcO (c : Addr) (pos big seed : Int) : HO := .lst [.ref c, .int pos, .int big, .int seed]
structure SrcOk (xs : List Int) (pos big seed : Int) : Prop where
  xs : ∀ x ∈ xs, 0 ≤ x
  pos : 0 ≤ pos
  big : 0 ≤ big
  s0 : 0 ≤ seed
  s1 : seed < 2147483647
def SrcAt (H : Hp) (p c : Addr) (xs : List Int) : Prop := ∃ pos big seed, H p = some (srcO c pos big seed) ∧ H c = some (.lst (xs.map V.int)) ∧ SrcOk xs pos big seed
def PoolAt (H : Hp) (p : Addr) : Prop := ∃ c xs, SrcAt H p c xs
theorem src_ne {xs : List Int} {c : Addr} {pos big seed : Int} : srcO c pos big seed ≠ .lst (xs.map V.int) := fun z => by
  match xs, HO.lst.inj z with
  | _ :: _, e => cases e
theorem PoolAt.ne {H : Hp} {p q : Addr} (h : PoolAt H p) (n : H q = none) : p ≠ q := by
  obtain ⟨c, xs, b, g, s, h, _⟩ := h
  exact ne_of_none h n
theorem PoolAt.isL {H : Hp} {p : Addr} (h : PoolAt H p) : ∃ ys, H p = some (.lst ys) := by
  obtain ⟨c, xs, b, g, s, h, _⟩ := h
  exact ⟨_, h⟩
theorem PoolAt.off {H : Hp} {p q : Addr} {xs : List Str} (h : PoolAt H p) (hq : H q = some (.lst (xs.map V.str))) : q ≠ p := by
  rintro rfl
  obtain ⟨c, ys, b, g, s, h, _⟩ := h
  rw [hq] at h
  have e := HO.lst.inj (Option.some.inj h)
  match xs, e with
  | _ :: _, e => cases e
/-- from H to H' all stays but the draws' source at p, which is one still; new things may have come -/
structure Go (p : Addr) (H H' : Hp) : Prop where
  but : But p H H'
  free : ∀ b, H' b = none → H b = none
  pool : PoolAt H' p
  cell : ∀ c pos big seed, H' p = some (srcO c pos big seed) → H c ≠ none ∧ ∃ pos big seed, H p = some (srcO c pos big seed)
theorem Go.refl {p : Addr} {H : Hp} (h : PoolAt H p) : Go p H H := ⟨But.refl, fun _ n => n, h, fun c pos big seed e => by
  obtain ⟨c', xs, b, g, s, h1, h2, _⟩ := h
  have e2 := Option.some.inj (e.symm.trans h1)
  have e3 := (List.cons.inj (HO.lst.inj e2)).1
  have e4 : c = c' := V.ref.inj e3
  subst e4
  exact ⟨(fun z => by rw [z] at h2; cases h2), _, _, _, e⟩⟩
theorem Go.trans {p : Addr} {H H1 H2 : Hp} (a : Go p H H1) (b : Go p H1 H2) : Go p H H2 := ⟨a.but.trans b.but, fun c n => a.free c (b.free c n), b.pool, fun c _ _ _ e => by
  obtain ⟨_, _, _, _, e2⟩ := b.cell c _ _ _ e
  exact a.cell c _ _ _ e2⟩
/-- an object that was not there at H is written -/
theorem Go.put {p q : Addr} {H H1 : Hp} {o : HO} (a : Go p H H1) (n : H q = none) (ne : p ≠ q) : Go p H (L2.upd H1 q o) := by
  obtain ⟨c, xs, b, g, s, h1, h2, ok⟩ := a.pool
  have nc : c ≠ q := fun z => (a.cell _ _ _ _ h1).1 (z ▸ n)
  exact ⟨fun b u h e => at_upd (ne_of_none e n) (a.but b u h e), fun c z => a.free c (new_old z), ⟨c, xs, b, g, s, at_upd ne h1, at_upd nc h2, ok⟩, fun c' _ _ _ e => a.cell c' _ _ _ ((upd_ne ne).symm.trans e)⟩
theorem Go.new {p q : Addr} {H H1 : Hp} {o : HO} (a : Go p H H1) (n : H1 q = none) : Go p H (L2.upd H1 q o) := a.put (a.free _ n) (a.pool.ne n)
theorem Go.at {p q : Addr} {H H1 : Hp} {o : HO} (a : Go p H H1) (h : H q = some o) (n : q ≠ p) : H1 q = some o := a.but q o n h
theorem Go.seqT {p a : Addr} {H H1 : Hp} {xs : List V} {K : PySem.W.Frag} (g : Go p H H1) (hp : PoolAt H p) (h : SqT K H a xs) : SqT K H1 a xs := g.but.seqT hp.isL h
theorem Go.of_same {p : Addr} {H H' : Hp} (hp : PoolAt H p) (s : Same H H') : Go p H H' := by
  obtain ⟨c, xs, b, g, sd, h1, h2, ok⟩ := hp
  refine ⟨But.of_same s, fun b n => new_of_same s n, ⟨c, xs, b, g, sd, s _ _ h1, s _ _ h2, ok⟩, fun c' _ _ _ e => ?_⟩
  have e2 := Option.some.inj (e.symm.trans (s _ _ h1))
  have e4 : c' = c := V.ref.inj (List.cons.inj (HO.lst.inj e2)).1
  subst e4
  exact ⟨(fun z => by rw [z] at h2; cases h2), _, _, _, h1⟩
theorem PoolAt.keep {p : Addr} {H H' : Hp} (h : PoolAt H p) (k : ∀ a xs, H a = some (.lst xs) → H' a = some (.lst xs)) : PoolAt H' p := by
  obtain ⟨c, xs, b, g, sd, h1, h2, ok⟩ := h
  exact ⟨c, xs, b, g, sd, k _ _ h1, k _ _ h2, ok⟩
def spBox (K : PySem.W.Frag) : Sp := fun vs H Q _ => ∃ (a : Addr) (ns : List Int), vs = [.ref a] ∧ SqL K H a (ns.map V.int) ∧ ns.length ≤ 63 ∧
  ∀ (p : Addr) (H' : Hp), Same H H' → H p = none → PoolAt H' p → Q (.ref p) H'
def spDraw : Sp := fun vs H Q _ => ∃ (p : Addr) (many : Int), vs = [.ref p, .int many] ∧ 0 < many ∧ many < 1000000 ∧ PoolAt H p ∧
  ∀ (r : Int) (H' : Hp), 0 ≤ r → r < many → Go p H H' → Q (.int r) H'
/-- _law_draw, as it is used -/
theorem use_draw {H : Hp} {p : Addr} {many : Int} {Q : VK} {E : XK} (h : PoolAt H p) (m0 : 0 < many) (m1 : many < 1000000)
    (k : ∀ (r : Int) (H' : Hp), 0 ≤ r → r < many → Go p H H' → Q (.int r) H') : spDraw [.ref p, .int many] H Q E := ⟨p, many, rfl, m0, m1, h, k⟩
section
variable {P : Program} {w : World} {K : PySem.W.Frag} {mg : Str → Option Value} {base : Heap}
theorem ok_box {f : Addr} {fd : FuncData} (F : Fun K "_law_box" "_law_box" s__law_box f fd) (B : Bt mg) : FnG P w K mg base CX0 1 f fd ["_law_script"] (spBox K) := by
  refine fnG0 F sc__law_box (fun vs H Q E h => ?_) (fun cdv A outer s H vs Q E hr h => ?_)
  · obtain ⟨a, ns, rfl, _⟩ := h
    rfl
  · obtain ⟨a, ns, rfl, hs, hl, q⟩ := h
    have nd := sc__law_box.nd
    refine ⟨_, (pss_one (ps_ret (pe_lst (pa_cons (pe_lc (own := [("_law_cell", 1)]) rfl nd (ki_list K rfl (pe_slice (kSl K rfl) (pv 0) po_none (po_some pe_int))) (blkOk_by (own := [("_law_cell", 1)]) (N := nN__law_box) (sc := defScope s__law_box) (by decide +kernel)) (fun _ _ _ _ _ => (pg_name (i := 1) nd rfl (by first | exact Or.inl rfl | exact Or.inr rfl))) (fun _ _ _ _ _ => pts_nil) (fun _ _ _ _ _ => (pe_callB cAbs (by rfl) B.abs bb_abs (pa_cons (pv 1) pa_nil)))) (pa_cons pe_int (pa_cons pe_int (pa_cons pe_int pa_nil))))))), ?_⟩
    wtm_at "rd"
    refine rd_slL hs ?_
    intro t ft
    have ht := @upd_same H t (.lst (cutV (ns.map V.int) none (some 63)))
    have s1 := Same.new (o := .lst (cutV (ns.map V.int) none (some 63))) ft
    have e63 : cutV (ns.map V.int) none (some 63) = ns.map V.int := by
      unfold cutV HT.sIx
      simp only [Nat.sub_zero, List.drop_zero]
      rw [if_neg (by decide)]
      have : (ns.map V.int).length = ns.length := List.length_map _
      rw [List.take_of_length_le]
      rw [Nat.min_def]
      split <;> omega
    rw [e63] at ht s1 ⊢
    generalize upd H t (.lst (ns.map V.int)) = H1 at ht s1
    wtm_at "rd"
    refine rd_forL (SqL.of ht) ?_
    intro D fD
    refine lcL (K := K) (xs := ns.map V.int) (fun i H' => Same H1 H' ∧ H' D = some (.lst (((ns.take i).map fun z => (z.natAbs : Int)).map V.int))) ⟨Same.new fD, upd_same⟩ ?_ ?_ ?_
    · rintro i H' hi ⟨s, _⟩
      exact SqL.of (s _ _ ht)
    · rintro i y H' hy ⟨s, hD⟩
      obtain ⟨hi, rfl⟩ := map_at hy
      wtm_at "rd"
      refine rd_acc hD (by rw [List.length_map, List.length_map, List.length_take]; omega) ?_
      refine ⟨same_put s fD, ?_⟩
      rw [upd_same, show ns.take (i + 1) = ns.take i ++ [ns[i]] from by rw [List.take_succ, List.getElem?_eq_getElem hi]; rfl, List.map_append, List.map_append]
      rfl
    · rintro H2 ⟨s2, hD⟩
      rw [List.length_map, List.take_length] at hD
      wtm_at "rd"
      intro p fp
      have k := Same.new (o := srcO D 0 0 7) fp
      refine q p _ ((s1.trans s2).trans k) (new_of_same (s1.trans s2) fp) ⟨D, _, 0, 0, 7, upd_same, k _ _ hD, ⟨fun x hx => ?_, by decide, by decide, by decide, by decide⟩⟩
      obtain ⟨z, _, rfl⟩ := List.mem_map.mp hx
      omega
theorem ok_draw {f : Addr} {fd : FuncData} (F : Fun K "_law_draw" "_law_draw" s__law_draw f fd) (B : Bt mg) : FnG P w K mg base CX0 1 f fd ["_law_source", "_law_count"] spDraw := by
  refine fnG0 F sc__law_draw (fun vs H Q E h => ?_) (fun cdv A outer s H vs Q E hr h => ?_)
  · obtain ⟨p, many, rfl, _⟩ := h
    rfl
  · obtain ⟨p, many, rfl, m0, m1, hp, q⟩ := h
    have nd := sc__law_draw.nd
    have g0 := Go.refl hp
    obtain ⟨c, xs, pos, big, seed, h1, h2, ok⟩ := hp
    have ncp : c ≠ p := fun z => by
      subst z
      exact src_ne (Option.some.inj (h1.symm.trans h2))
    have set : ∀ {H1 : Hp} {pos' big' seed' pos2 big2 seed2 : Int}, Go p H H1 → H1 p = some (srcO c pos' big' seed') → H1 c = some (.lst (xs.map V.int)) → SrcOk xs pos2 big2 seed2 → Go p H (upd H1 p (srcO c pos2 big2 seed2)) ∧ upd H1 p (srcO c pos2 big2 seed2) p = some (srcO c pos2 big2 seed2) ∧ upd H1 p (srcO c pos2 big2 seed2) c = some (.lst (xs.map V.int)) := by
      intro H1 pos' big' seed' pos2 big2 seed2 g e1 e2 ok2
      refine ⟨⟨g.but.trans But.upd, fun b z => g.free b (new_old z), ⟨c, xs, _, _, _, upd_same, at_upd ncp e2, ok2⟩, fun c' _ _ _ e => ?_⟩, upd_same, at_upd ncp e2⟩
      rw [upd_same] at e
      have e4 : c = c' := V.ref.inj (List.cons.inj (HO.lst.inj (Option.some.inj e))).1
      subst e4
      exact g.cell c _ _ _ e1
    refine ⟨_, (C8.pss_cut (ps_if (PW.pt (pw_and (pt_cmpR (kEq K rfl hr.u64) (pe_ix (kIx K rfl) (pv 0) pe_int (fun _ _ => rfl)) pe_int (nomark _)) (pw_and1 (pt_cmpR uLt (pe_ix (kIx K rfl) (pv 0) pe_int (fun _ _ => rfl)) (pe_callB (kLen K rfl) (by rfl) B.len bb_len (pa_cons (pe_ix (kIx K rfl) (pv 0) pe_int (fun _ _ => rfl)) pa_nil)) (nomark _))))) (pss_cons (ps_set (i := 2) nd rfl (by first | exact Or.inl rfl | exact Or.inr rfl) (pe_ix (kIx K rfl) (pe_ix (kIx K rfl) (pv 0) pe_int (fun _ _ => rfl)) (pe_ix (kIx K rfl) (pv 0) pe_int (fun _ _ => rfl)) (fun _ _ => rfl)))
  (pss_cons (ps_asg (pe_op (kAdd K rfl) (pe_ix (kIx K rfl) (pv 0) pe_int (fun _ _ => rfl)) pe_int) (pg_sub (pv 0) pe_int set_list))
  (pss_one (ps_if (pt_cmpR uGe (pv 2) (pe_op uPow pe_int pe_int) (nomark _)) (pss_one (ps_asg (pv 2) (pg_sub (pv 0) pe_int set_list))) (pss_one (ps_asg (pe_op uMod (pe_op (kAdd K rfl) (pe_op uMul (pe_ix (kIx K rfl) (pv 0) pe_int (fun _ _ => rfl)) pe_int) (pv 2)) pe_int) (pg_sub (pv 0) pe_int set_list))))))) pss_nil)
  (pss_cons (ps_if (pt_cmpR uGt (pe_ix (kIx K rfl) (pv 0) pe_int (fun _ _ => rfl)) pe_int (nomark _)) (pss_cons (ps_set (i := 3) nd rfl (by first | exact Or.inl rfl | exact Or.inr rfl) (pe_op uMod (pe_ix (kIx K rfl) (pv 0) pe_int (fun _ _ => rfl)) (pv 1)))
  (pss_cons (ps_asg (pe_op uDiv (pe_ix (kIx K rfl) (pv 0) pe_int (fun _ _ => rfl)) (pv 1)) (pg_sub (pv 0) pe_int set_list))
  (pss_one (ps_ret (pv 3))))) pss_nil)
  (pss_cons (ps_asg (pe_op uMod (pe_op (kAdd K rfl) (pe_op uMul (pe_ix (kIx K rfl) (pv 0) pe_int (fun _ _ => rfl)) pe_int) pe_int) pe_int) (pg_sub (pv 0) pe_int set_list))
  (pss_one (ps_ret (pe_op uMod (pe_op uMod (pe_op uMul (pe_ix (kIx K rfl) (pv 0) pe_int (fun _ _ => rfl)) pe_int) pe_int) (pv 1))))))), ?_⟩
    refine ⟨fun σ' H' => ∃ (u2 u3 : Option V) (pos big seed : Int), σ' = [some (.ref p), some (.int many), u2, u3] ∧ Go p H H' ∧ H' p = some (srcO c pos big seed) ∧ H' c = some (.lst (xs.map V.int)) ∧ SrcOk xs pos big seed, ?_, ?_⟩
    · wtm_at "rd"
      refine rd_ixL (SqL.of h1) rfl ?_
      wtm_at "rd"
      refine rd_split (fun c1 => ?_) (fun c1 => ?_)
      · wtm_at "rd"
        refine rd_ixL (SqL.of h1) rfl ?_
        wtm_at "rd"
        refine rd_ixL (SqL.of h1) rfl ?_
        wtm_at "rd"
        refine rd_lenL (SqL.of h2) ?_
        rw [List.length_map]
        wtm_at "rd"
        refine rd_split (fun c2 => ?_) (fun c2 => ?_)
        · obtain ⟨k, rfl⟩ : ∃ k : Nat, pos = (k : Int) := ⟨pos.toNat, by have := ok.pos; omega⟩
          have hk : k < xs.length := by omega
          wtm_at "rd"
          refine rd_ixL (SqL.of h1) rfl ?_
          wtm_at "rd"
          refine rd_ixL (SqL.of h1) rfl ?_
          refine rd_ixL (SqL.of h2) (v := .int xs[k]) (atI_nat (by rw [List.getElem?_map, List.getElem?_eq_getElem hk]; rfl)) ?_
          have x0 := ok.xs _ (List.getElem_mem hk)
          generalize xs[k] = x at *
          wtm_at "rd"
          refine rd_ixL (SqL.of h1) rfl ?_
          wtm_at "rd"
          refine rd_setL h1 rfl ?_
          obtain ⟨g1, e1, e2⟩ := set (pos2 := (k : Int) + 1) (big2 := big) (seed2 := seed) g0 h1 h2 ⟨ok.xs, by omega, ok.big, ok.s0, ok.s1⟩
          wtm_at "rd"
          refine rd_split (fun c3 => ?_) (fun c3 => ?_)
          · wtm_at "rd"
            refine rd_setL e1 rfl ?_
            obtain ⟨g3, e3, e4⟩ := set (pos2 := (k : Int) + 1) (big2 := x) (seed2 := seed) g1 e1 e2 ⟨ok.xs, by omega, x0, ok.s0, ok.s1⟩
            exact ⟨_, _, _, _, _, rfl, g3, e3, e4, ⟨ok.xs, by omega, x0, ok.s0, ok.s1⟩⟩
          · wtm_at "rd"
            refine rd_ixL (SqL.of e1) rfl ?_
            wtm_at "rd"
            refine rd_setL e1 rfl ?_
            obtain ⟨g3, e3, e4⟩ := set (pos2 := (k : Int) + 1) (big2 := big) (seed2 := (seed * 48271 + x) % 2147483647) g1 e1 e2 ⟨ok.xs, by omega, ok.big, by omega, by omega⟩
            exact ⟨_, _, _, _, _, rfl, g3, e3, e4, ⟨ok.xs, by omega, ok.big, by omega, by omega⟩⟩
        · wtm_at "rd"
          exact ⟨_, _, _, _, _, rfl, g0, h1, h2, ok⟩
      · wtm_at "rd"
        exact ⟨_, _, _, _, _, rfl, g0, h1, h2, ok⟩
    · rintro σ' H1 ⟨u2, u3, pos, big, seed, rfl, g1, e1, e2, ok⟩
      wtm_at "rd"
      refine rd_ixL (SqL.of e1) rfl ?_
      wtm_at "rd"
      refine rd_split (fun c1 => ?_) (fun c1 => ?_)
      · wtm_at "rd"
        refine rd_ixL (SqL.of e1) rfl ?_
        wtm_at "rd"
        refine rd_ixL (SqL.of e1) rfl ?_
        wtm_at "rd"
        refine rd_setL e1 rfl ?_
        wtm_at "rd"
        exact q _ _ (Int.emod_nonneg _ (by omega)) (Int.emod_lt_of_pos _ m0) (set g1 e1 e2 ⟨ok.xs, ok.pos, Int.ediv_nonneg ok.big (by omega), ok.s0, ok.s1⟩).1
      · wtm_at "rd"
        refine rd_ixL (SqL.of e1) rfl ?_
        wtm_at "rd"
        refine rd_setL e1 rfl ?_
        obtain ⟨g3, e3, e4⟩ := set (pos2 := pos) (big2 := big) (seed2 := (seed * 48271 + 11) % 2147483647) g1 e1 e2 ⟨ok.xs, ok.pos, ok.big, by omega, by omega⟩
        wtm_at "rd"
        refine rd_ixL (SqL.of e3) rfl ?_
        wtm_at "rd"
        exact q _ _ (Int.emod_nonneg _ (by omega)) (Int.emod_lt_of_pos _ m0) g3
end
end Law

/-! the names of a random problem -/
namespace U
open PySem PySem.Spec PyProof.Rows L2
def IsTail (s : Str) : Prop := s.length ≤ 7 ∧ ∀ c ∈ s.cps.toList, 97 ≤ c ∧ c ≤ 122
open SX in theorem tail_join {cs : List Nat} (hl : cs.length ≤ 7) (h : ∀ c ∈ cs, 97 ≤ c ∧ c ≤ 122) : IsTail (Txt.join ("" : Str) (cs.map fun c => ⟨#[c]⟩)) := by
  have e1 : (cs.map fun c => (⟨#[c]⟩ : Str)) = (cs.map fun c => [c]).map S := by
    rw [List.map_map]
    rfl
  have e2 : ∀ cs : List Nat, TL.joinL [] (cs.map fun c => [c]) = cs := by
    intro cs
    induction cs with
    | nil => rfl
    | cons a r ih =>
      cases r with
      | nil => rfl
      | cons b r => 
        show [a] ++ ([] ++ TL.joinL [] ((b :: r).map fun c => [c])) = _
        rw [ih]
        rfl
  have e3 : Txt.join ("" : Str) (cs.map fun c => ⟨#[c]⟩) = S cs := by
    rw [e1, show ("" : Str) = S [] from rfl, join_S, e2]
  rw [e3]
  exact ⟨by rw [S_len]; exact hl, by simpa [S] using h⟩
/-- a name of a random problem: the letter that tells it, in front or behind -/
def WdAt (front : Bool) (shift step : Int) (j : Nat) (w : Str) : Prop := ∃ t : Str, IsTail t ∧ w = if front = true then ⟨#[97 + (((j : Int) * step + shift) % 26).toNat]⟩ ++ t else t ++ ⟨#[97 + (((j : Int) * step + shift) % 26).toNat]⟩
theorem app_list {a b : Str} : (a ++ b).cps.toList = a.cps.toList ++ b.cps.toList := TL.tl_append a b
theorem WdAt.name {front : Bool} {shift step : Int} {j : Nat} {w : Str} (h : WdAt front shift step j w) : IsName w := by
  obtain ⟨t, ⟨tl, tc⟩, rfl⟩ := h
  have hc : 97 ≤ 97 + (((j : Int) * step + shift) % 26).toNat ∧ 97 + (((j : Int) * step + shift) % 26).toNat ≤ 122 := by omega
  generalize 97 + (((j : Int) * step + shift) % 26).toNat = c at hc
  have tl' : t.cps.toList.length ≤ 7 := by simpa [Str.length] using tl
  have len : ∀ z : Str, z.length = z.cps.toList.length := fun z => by simp [Str.length]
  split
  · refine ⟨?_, ?_, fun x hx => ?_⟩
    · rw [len, app_list, List.length_append]; show 1 ≤ 1 + _; omega
    · rw [len, app_list, List.length_append]; show 1 + _ ≤ 8; omega
    · rw [app_list] at hx
      rcases List.mem_append.mp hx with z | z
      · have : x = c := by simpa using z
        rw [this]; exact hc
      · exact tc x z
  · refine ⟨?_, ?_, fun x hx => ?_⟩
    · rw [len, app_list, List.length_append]; show 1 ≤ _ + 1; omega
    · rw [len, app_list, List.length_append]; show _ + 1 ≤ 8; omega
    · rw [app_list] at hx
      rcases List.mem_append.mp hx with z | z
      · exact tc x z
      · have : x = c := by simpa using z
        rw [this]; exact hc
theorem WdAt.inj {front : Bool} {shift step : Int} {j k : Nat} {w : Str} (hs : step = 7 ∨ step = 1 ∨ step = 3 ∨ step = 11) (hj : j < 26) (hk : k < 26) (a : WdAt front shift step j w) (b : WdAt front shift step k w) : j = k := by
  have core : 97 + (((j : Int) * step + shift) % 26).toNat = 97 + (((k : Int) * step + shift) % 26).toNat → j = k := by
    rcases hs with rfl | rfl | rfl | rfl <;> omega
  obtain ⟨t, _, e1⟩ := a
  obtain ⟨u, _, e2⟩ := b
  have e := e1.symm.trans e2
  apply core
  generalize 97 + (((j : Int) * step + shift) % 26).toNat = c at *
  generalize 97 + (((k : Int) * step + shift) % 26).toNat = d at *
  cases front with
  | true =>
    rw [if_pos rfl, if_pos rfl] at e
    have e3 := congrArg (fun z : Str => z.cps.toList) e
    simp only [app_list] at e3
    have : [c] ++ t.cps.toList = [d] ++ u.cps.toList := e3
    injection this
  | false =>
    rw [if_neg Bool.false_ne_true, if_neg Bool.false_ne_true] at e
    have e3 := congrArg (fun z : Str => z.cps.toList) e
    simp only [app_list] at e3
    have e4 : t.cps.toList ++ [c] = u.cps.toList ++ [d] := e3
    have e5 := congrArg List.getLast? e4
    simp only [List.getLast?_append, List.getLast?_singleton, Option.some_or] at e5
    exact Option.some.inj e5
/-- the words so far -/
structure Wds (front : Bool) (shift step : Int) (ws : List Str) : Prop where
  at_ : ∀ j (h : j < ws.length), WdAt front shift step j ws[j]
theorem Wds.nil {front : Bool} {shift step : Int} : Wds front shift step [] := ⟨fun j h => absurd h (Nat.not_lt_zero _)⟩
theorem Wds.snoc {front : Bool} {shift step : Int} {ws : List Str} {w : Str} (h : Wds front shift step ws) (k : WdAt front shift step ws.length w) : Wds front shift step (ws ++ [w]) := ⟨fun j hj => by
  rw [List.length_append, List.length_singleton] at hj
  by_cases z : j < ws.length
  · rw [List.getElem_append_left z]; exact h.at_ j z
  · obtain rfl : j = ws.length := by omega
    rw [List.getElem_append_right (Nat.le_refl _)]
    simpa using k⟩
theorem Wds.names {front : Bool} {shift step : Int} {ws : List Str} (h : Wds front shift step ws) (hs : step = 7 ∨ step = 1 ∨ step = 3 ∨ step = 11) (l : ws.length ≤ 26) : NamesU ws := by
  refine ⟨?_, fun y hy => ?_⟩
  · rw [List.nodup_iff_pairwise_ne, List.pairwise_iff_getElem]
    intro i j hi hj hij e
    have a := h.at_ i hi
    rw [e] at a
    have := WdAt.inj hs (by omega) (by omega) a (h.at_ j hj)
    omega
  · obtain ⟨j, hj, rfl⟩ := List.mem_iff_getElem.mp hy
    exact (h.at_ j hj).name
end U
namespace Law
open PySem PySem.Spec PyProof.Rows L2 U


def spStem : Sp := fun vs H Q _ => ∃ p : Addr, vs = [.ref p] ∧ PoolAt H p ∧ ∀ (t : Str) (H' : Hp), Go p H H' → IsTail t → Q (.str t) H'
def spNamesB : Sp := fun vs H Q _ => ∃ (p : Addr) (many : Int), vs = [.ref p, .int many] ∧ 0 ≤ many ∧ many ≤ 26 ∧ PoolAt H p ∧
  ∀ (l : Addr) (ws : List Str) (H' : Hp), Go p H H' → H l = none → H' l = some (.lst (ws.map V.str)) → NamesU ws → ws.length = many.toNat → Q (.ref l) H'
theorem rd_join {K : PySem.W.Frag} {H : Hp} {Q : VK} {p : Addr} {cs : List Nat} (hp : SqL K H p ((cs.map fun c => (⟨#[c]⟩ : Str)).map V.str)) (hl : cs.length ≤ 100) (h : Q (.str (Txt.join ("" : Str) (cs.map fun c => ⟨#[c]⟩))) H) :
    ∃ a p', ∃ ys : List Str, V.str ("" : Str) = .str a ∧ [V.ref p] = [.ref p'] ∧ (SqL K H p' (ys.map V.str) ∨ SqT K H p' (ys.map V.str)) ∧ (ys.map (·.length)).sum + ys.length * a.length ≤ 16777216 ∧ Q (.str (Txt.join a ys)) H := by
  refine ⟨_, p, _, rfl, rfl, .inl hp, ?_, h⟩
  have e : ((cs.map fun c => (⟨#[c]⟩ : Str)).map (·.length)).sum = cs.length := by
    clear hp h hl
    induction cs with
    | nil => rfl
    | cons c r ih =>
      rw [List.map_cons, List.map_cons, List.sum_cons, ih, List.length_cons]
      show 1 + r.length = r.length + 1
      omega
  rw [e]
  show cs.length + (cs.map _).length * 0 ≤ 16777216
  omega
theorem rd_m1 {r : V → List V → Hp → VK → Prop} {to te : TE} {σ : L2.St} {H : Hp} {Q : VK} (h : to σ H fun x H1 => (∃ a, x = .str a) ∧ te σ H1 fun y H2 => r x [y] H2 Q) : tM1 r to te σ H Q := h
section
variable {P : Program} {w : World} {K : PySem.W.Frag} {mg : Str → Option Value} {base : Heap}
structure B2a (P : Program) (w : World) (K : PySem.W.Frag) (mg : Str → Option Value) (base : Heap) : Prop where
  _law_draw : Cal P w K mg base CX0 1 "_law_draw" spDraw
theorem ok_stem {f : Addr} {fd : FuncData} (F : Fun K "_law_stem" "_law_stem" s__law_stem f fd) (B : Bt mg) (C : B2a P w K mg base) : FnG P w K mg base CX0 2 f fd ["_law_source"] spStem := by
  refine fnG0 F sc__law_stem (fun vs H Q E h => ?_) (fun cdv A outer s H vs Q E hr h => ?_)
  · obtain ⟨p, rfl, _⟩ := h
    rfl
  · obtain ⟨p, rfl, hp, q⟩ := h
    have nd := sc__law_stem.nd
    refine ⟨_, (pss_one (ps_ret (pe_join pe_str (pe_lc (own := [("_law_k", 1)]) rfl nd (pi_range1 rfl B.range (pa_cons (pe_c C._law_draw hr (by decide) rfl (pa_cons (pv 0) (pa_cons pe_int pa_nil))) pa_nil)) (blkOk_by (own := [("_law_k", 1)]) (N := nN__law_stem) (sc := defScope s__law_stem) (by decide +kernel)) (fun _ _ _ _ _ => (pg_name (i := 1) nd rfl (by first | exact Or.inl rfl | exact Or.inr rfl))) (fun _ _ _ _ _ => pts_nil) (fun _ _ _ _ _ => (pe_ix (kIx K rfl) pe_str (pe_c C._law_draw hr (by decide) rfl (pa_cons (pv 0) (pa_cons pe_int pa_nil))) (fun _ _ => rfl))))))), ?_⟩
    wtm_at "rd"
    refine rd_m1 ?_
    wtm_at "rd"
    refine ⟨⟨_, rfl⟩, ?_⟩
    wtm_at "rd"
    refine use_draw hp (by decide) (by decide) fun r H1 r0 r1 g1 => ?_
    wtm_at "rd"
    intro D fD
    have npD := g1.pool.ne fD
    have fD0 := g1.free _ fD
    refine lcR (fun i H' => ∃ cs : List Nat, cs.length = i ∧ (∀ c ∈ cs, 97 ≤ c ∧ c ≤ 122) ∧ Go p H H' ∧ H' D = some (.lst ((cs.map fun c => (⟨#[c]⟩ : Str)).map V.str))) ⟨[], rfl, (fun c h => nomatch h), g1.new fD, upd_same⟩ ?_ ?_
    · rintro i H' hi ⟨cs, rfl, hc, g, hD⟩
      wtm_at "rd"
      refine use_draw g.pool (by decide) (by decide) fun d H2 d0 d1 g2 => ?_
      refine rd_ixS letters_len (letters_at d0 d1) ?_
      have hD2 := g2.at hD (Ne.symm npD)
      refine rd_acc hD2 (by rw [List.length_map, List.length_map]; omega) ?_
      refine ⟨cs ++ [97 + d.toNat], by rw [List.length_append]; rfl, fun c h => ?_, (g.trans g2).put fD0 npD, ?_⟩
      · rcases List.mem_append.mp h with h | h
        · exact hc c h
        · rw [List.mem_singleton] at h
          omega
      · rw [upd_same, List.map_append, List.map_append]
        rfl
    · rintro H' ⟨cs, hl, hc, g, hD⟩
      refine rd_join (SqL.of hD) (by omega) ?_
      wtm_at "rd"
      exact q _ _ g (tail_join (by omega) hc)
structure B2b (P : Program) (w : World) (K : PySem.W.Frag) (mg : Str → Option Value) (base : Heap) : Prop where
  _law_draw : Cal P w K mg base CX0 1 "_law_draw" spDraw
  _law_stem : Cal P w K mg base CX0 2 "_law_stem" spStem
theorem ok_namesB {f : Addr} {fd : FuncData} (F : Fun K "_law_random_names" "_law_random_names" s__law_random_names f fd) (B : Bt mg) (C : B2b P w K mg base) : FnG P w K mg base CX0 3 f fd ["_law_source", "_law_count"] spNamesB := by
  refine fnG0 F sc__law_random_names (fun vs H Q E h => ?_) (fun cdv A outer s H vs Q E hr h => ?_)
  · obtain ⟨p, many, rfl, _⟩ := h
    rfl
  · obtain ⟨p, many, rfl, m0, m1, hp, q⟩ := h
    have nd := sc__law_random_names.nd
    refine ⟨_, (pss_cons (ps_set (i := 2) nd rfl (by first | exact Or.inl rfl | exact Or.inr rfl) (pe_c C._law_draw hr (by decide) rfl (pa_cons (pv 0) (pa_cons pe_int pa_nil))))
  (pss_cons (ps_set (i := 3) nd rfl (by first | exact Or.inl rfl | exact Or.inr rfl) (pe_c C._law_draw hr (by decide) rfl (pa_cons (pv 0) (pa_cons pe_int pa_nil))))
  (pss_cons (ps_set (i := 4) nd rfl (by first | exact Or.inl rfl | exact Or.inr rfl) (pe_c C._law_draw hr (by decide) rfl (pa_cons (pv 0) (pa_cons pe_int pa_nil))))
  (pss_cons (ps_set (i := 5) nd rfl (by first | exact Or.inl rfl | exact Or.inr rfl) (pe_ix (kIx K rfl) (pe_lst (pa_cons pe_int (pa_cons pe_int (pa_cons pe_int (pa_cons pe_int pa_nil))))) (pe_c C._law_draw hr (by decide) rfl (pa_cons (pv 0) (pa_cons pe_int pa_nil))) (fun _ _ => rfl)))
  (pss_cons (ps_set (i := 6) nd rfl (by first | exact Or.inl rfl | exact Or.inr rfl) (pe_c C._law_stem hr (by decide) rfl (pa_cons (pv 0) pa_nil)))
  (pss_cons (ps_set (i := 7) nd rfl (by first | exact Or.inl rfl | exact Or.inr rfl) (pe_lst pa_nil))
  (pss_cons (ps_for PassesOwn.never rfl (pi_range1 rfl B.range (pa_cons (pv 1) pa_nil)) (pg_name (i := 8) nd rfl (by first | exact Or.inl rfl | exact Or.inr rfl)) (C8.pss_cut (ps_if (pt_cmpR uGt (pv 3) pe_int (nomark _)) (pss_one (ps_set (i := 6) nd rfl (by first | exact Or.inl rfl | exact Or.inr rfl) (pe_c C._law_stem hr (by decide) rfl (pa_cons (pv 0) pa_nil)))) pss_nil)
  (pss_cons (ps_set (i := 9) nd rfl (by first | exact Or.inl rfl | exact Or.inr rfl) (pe_ix (kIx K rfl) pe_str (pe_op uMod (pe_op (kAdd K rfl) (pe_op uMul (pv 8) (pv 5)) (pv 4)) pe_int) (fun _ _ => rfl)))
  (pss_one (ps_expr (pe_bm PySem.F.plainAttrs_list PySem.F.slot_list_append PySem.F.type_list_append mt_append (pv 7) (pa_cons (pe_ifExp (pt_cmpR (kEq K rfl hr.u64) (pv 2) pe_int (nomark _)) (pe_op (kAdd K rfl) (pv 9) (pv 6)) (pe_op (kAdd K rfl) (pv 6) (pv 9))) pa_nil)))))))
  (pss_one (ps_ret (pv 7)))))))))), ?_⟩
    wtm_at "rd"
    refine use_draw hp (by decide) (by decide) fun b H1 b0 b1 g1 => ?_
    wtm_at "rd"
    refine use_draw g1.pool (by decide) (by decide) fun alike H2 a0 a1 g => ?_
    have g2 := g1.trans g
    clear g g1
    wtm_at "rd"
    refine use_draw g2.pool (by decide) (by decide) fun shift H3 s0 s1 g => ?_
    have g3 := g2.trans g
    clear g g2
    wtm_at "rd"
    intro t ft
    have g4 := g3.new (o := .lst [.int 7, .int 1, .int 3, .int 11]) ft
    wtm_at "rd"
    refine use_draw g4.pool (by decide) (by decide) fun r H5 r0 r1 g => ?_
    have ht := g.at upd_same (g3.pool.ne ft).symm
    have g5 := g4.trans g
    clear g g4
    obtain ⟨step, hst, ist⟩ := pick4 (a := 7) (b := 1) (c := 3) (d := 11) r0 r1
    refine rd_ixL (SqL.of ht) hst ?_
    wtm_at "rd"
    refine ⟨p, rfl, g5.pool, fun t0 H6 g it0 => ?_⟩
    have g6 := g5.trans g
    clear g g5 g3 ht
    wtm_at "rd"
    intro l fl
    have npl := g6.pool.ne fl
    have fl0 := g6.free _ fl
    have g7 := g6.new (o := .lst []) fl
    wtm_at "rd"
    refine turnsR (fun i σ H' => ∃ (t : Str) (u8 u9 : Option V) (ws : List Str), σ = [some (.ref p), some (.int many), some (.int b), some (.int alike), some (.int shift), some (.int step), some (.str t), some (.ref l), u8, u9] ∧ IsTail t ∧ ws.length = i ∧ Wds (decide (b = 0)) shift step ws ∧ Go p H H' ∧ H' l = some (.lst (ws.map V.str))) ⟨t0, _, _, [], rfl, it0, rfl, Wds.nil, g7, upd_same⟩ ?_ ?_
    · rintro i σ H' hi ⟨t, u8, u9, ws, rfl, it, hwl, wd, g, hl⟩
      wtm_at "rd"
      refine ⟨fun σ' H2 => ∃ (t : Str) (u9 : Option V), σ' = [some (.ref p), some (.int many), some (.int b), some (.int alike), some (.int shift), some (.int step), some (.str t), some (.ref l), some (.int (0 + (i : Int))), u9] ∧ IsTail t ∧ Go p H H2 ∧ H2 l = some (.lst (ws.map V.str)), ?_, ?_⟩
      · wtm_at "rd"
        refine rd_split (fun c => ?_) (fun c => ?_)
        · wtm_at "rd"
          refine ⟨p, rfl, g.pool, fun t2 H2 g2 it2 => ?_⟩
          wtm_at "rd"
          exact ⟨t2, _, rfl, it2, g.trans g2, g2.at hl (Ne.symm npl)⟩
        · wtm_at "rd"
          exact ⟨t, _, rfl, it, g, hl⟩
      rintro σ' H2 ⟨t, u9, rfl, it, g, hl⟩
      have ir : 0 ≤ ((0 + (i : Int)) * step + shift) % 26 ∧ ((0 + (i : Int)) * step + shift) % 26 < 26 := by omega
      have e0 : 97 + (((0 + (i : Int)) * step + shift) % 26).toNat = 97 + (((ws.length : Int) * step + shift) % 26).toNat := by rw [hwl, Int.zero_add]
      wtm_at "rd"
      refine rd_ixS letters_len (letters_at ir.1 ir.2) ?_
      rw [e0]
      have tl := it.1
      have fin : ∀ z : Str, WdAt (decide (b = 0)) shift step ws.length z → Go p H (upd H2 l (.lst (ws.map V.str ++ [.str z]))) ∧ upd H2 l (.lst (ws.map V.str ++ [.str z])) l = some (.lst ((ws ++ [z]).map V.str)) ∧ Wds (decide (b = 0)) shift step (ws ++ [z]) := fun z hz =>
        ⟨g.put fl0 npl, by rw [upd_same, List.map_append]; rfl, wd.snoc hz⟩
      wtm_at "rd"
      refine rd_tyL hl ?_
      wtm_at "rd"
      generalize hch : (⟨#[97 + (((ws.length : Int) * step + shift) % 26).toNat]⟩ : Str) = ch
      have chl : ch.length = 1 := by rw [← hch]; rfl
      refine rd_split (fun c => ?_) (fun c => ?_)
      · wtm_at "rd"
        refine rd_addS (Nat.le_trans (Nat.add_le_add (Nat.le_of_eq chl) tl) (by decide)) ?_
        wtm_at "rd"
        refine rd_append hl (by rw [List.length_map]; omega) ?_
        obtain ⟨f1, f2, f3⟩ := fin (ch ++ t) ⟨t, it, by rw [decide_eq_true c, if_pos rfl, hch]⟩
        exact ⟨t, _, _, _, rfl, it, by rw [List.length_append, hwl]; rfl, f3, f1, f2⟩
      · wtm_at "rd"
        refine rd_addS (Nat.le_trans (Nat.add_le_add tl (Nat.le_of_eq chl)) (by decide)) ?_
        wtm_at "rd"
        refine rd_append hl (by rw [List.length_map]; omega) ?_
        obtain ⟨f1, f2, f3⟩ := fin (t ++ ch) ⟨t, it, by rw [decide_eq_false c, if_neg Bool.false_ne_true, hch]⟩
        exact ⟨t, _, _, _, rfl, it, by rw [List.length_append, hwl]; rfl, f3, f1, f2⟩
    · rintro σ H' ⟨t, u8, u9, ws, rfl, it, hwl, wd, g, hl⟩
      wtm_at "rd"
      exact q l ws H' g fl0 hl (wd.names ist (by omega)) hwl
end
end Law

namespace Law
open PySem PySem.Spec PyProof.Rows L2 U


section
variable {P : Program} {w : World} {K : PySem.W.Frag} {mg : Str → Option Value} {base : Heap}
end
end Law

namespace Law
open PySem PySem.Spec PyProof.Rows L2 U


theorem PoolAt.offT {H : Hp} {p q : Addr} {xs : List V} (h : PoolAt H p) (hq : H q = some (.tup xs)) : q ≠ p := by
  rintro rfl
  obtain ⟨ys, h⟩ := h.isL
  rw [hq] at h
  cases h
theorem PoolAt.offD {H : Hp} {p q : Addr} {xs : List (Key × V)} (h : PoolAt H p) (hq : H q = some (.dK xs)) : q ≠ p := by
  rintro rfl
  obtain ⟨ys, h⟩ := h.isL
  rw [hq] at h
  cases h
/-- what stays while edges are found -/
structure GK (H : Hp) (p or st ed : Addr) (ord : List Str) (ws : List (Str × Int)) (es : List (Addr × Str × Str)) (H' : Hp) : Prop where
  go : Go p H H'
  ho : H' or = some (.lst (ord.map V.str))
  hs : H' st = some (.dK (kvsOf ws))
  he : H' ed = some (.lst (es.map fun x => V.ref x.1))
  pr : ∀ x ∈ es, H' x.1 = some (.tup [.str x.2.1, .str x.2.2])
theorem GK.new {H H' : Hp} {p or st ed t : Addr} {ord : List Str} {ws : List (Str × Int)} {es : List (Addr × Str × Str)} {o : HO} (h : GK H p or st ed ord ws es H') (n : H' t = none) : GK H p or st ed ord ws es (upd H' t o) :=
  ⟨h.go.new n, at_upd (ne_of_none h.ho n) h.ho, at_upd (ne_of_none h.hs n) h.hs, at_upd (ne_of_none h.he n) h.he, fun x hx => at_upd (ne_of_none (h.pr x hx) n) (h.pr x hx)⟩
theorem GK.step {H H' H2 : Hp} {p or st ed : Addr} {ord : List Str} {ws : List (Str × Int)} {es : List (Addr × Str × Str)} (h : GK H p or st ed ord ws es H') (no : or ≠ p) (ne : ed ≠ p) (g : Go p H' H2) : GK H p or st ed ord ws es H2 :=
  ⟨h.go.trans g, g.at h.ho no, g.at h.hs (h.go.pool.offD h.hs), g.at h.he ne, fun x hx => g.at (h.pr x hx) (h.go.pool.offT (h.pr x hx))⟩
theorem GK.add {H H' : Hp} {p or st ed t : Addr} {ord : List Str} {ws : List (Str × Int)} {es : List (Addr × Str × Str)} {e : Str × Str} (h : GK H p or st ed ord ws es H') (hf : H ed = none) (ne : ed ≠ p) (noe : or ≠ ed)
    (ht : H' t = some (.tup [.str e.1, .str e.2])) : GK H p or st ed ord ws (es ++ [(t, e)]) (upd H' ed (.lst ((es.map fun x => V.ref x.1) ++ [.ref t]))) := by
  have nt : ∀ {b : Addr} {xs : List V}, H' b = some (.tup xs) → b ≠ ed := fun {b xs} hb => ne_of hb h.he (by intro z; cases z)
  refine ⟨h.go.put hf (Ne.symm ne), at_upd noe h.ho, at_upd (ne_of h.hs h.he (by intro z; cases z)) h.hs, ?_, ?_⟩
  · rw [upd_same, List.map_append]
    rfl
  · intro x hx
    rcases List.mem_append.mp hx with hx | hx
    · exact at_upd (nt (h.pr x hx)) (h.pr x hx)
    · have : x = (t, e) := by simpa using hx
      subst this
      exact at_upd (nt ht) ht
section
variable {P : Program} {w : World} {K : PySem.W.Frag} {mg : Str → Option Value} {base : Heap}
end
end Law

namespace Law
open PySem PySem.Spec PyProof.Rows L2 U
/-- a graph and a state of it stand -/
structure GSt (H : Hp) (g n e st : Addr) (ns ord : List Str) (es : List (Addr × Str × Str)) (f : Str → Int) : Prop where
  gr : GrAt H g n e ns es
  ok : GrOk ns (es.map (·.2))
  pm : ord.Perm ns
  l2 : ns.length ≤ 100
  l3 : es.length ≤ 1000
  st : H st = some (.dK (kvF ord f))
  tri : ∀ x ∈ ns, 0 ≤ f x ∧ f x < 3
  pro : ∀ x ∈ es, f x.2.1 ≠ f x.2.2
section
variable {H H' : Hp} {g n e st p : Addr} {ns ord : List Str} {es : List (Addr × Str × Str)} {f : Str → Int}
theorem GSt.same (h : GSt H g n e st ns ord es f) (s : Same H H') : GSt H' g n e st ns ord es f := ⟨h.gr.same s, h.ok, h.pm, h.l2, h.l3, s _ _ h.st, h.tri, h.pro⟩
theorem GSt.go (h : GSt H g n e st ns ord es f) (hp : PoolAt H p) (b : Go p H H') : GSt H' g n e st ns ord es f := by
  obtain ⟨ys, hy⟩ := hp.isL
  exact ⟨h.gr.but hy b.but, h.ok, h.pm, h.l2, h.l3, b.but.dK hy h.st, h.tri, h.pro⟩
theorem GSt.nd (h : GSt H g n e st ns ord es f) : ns.Nodup := asc_nodup h.ok.names.asc
theorem GSt.inO (h : GSt H g n e st ns ord es f) : ∀ x ∈ ns, x ∈ ord := fun x hx => h.pm.mem_iff.mpr hx
theorem GSt.inE (h : GSt H g n e st ns ord es f) : ∀ x ∈ es, x.2.1 ∈ ns ∧ x.2.2 ∈ ns := fun x hx => h.ok.mem _ (List.mem_map_of_mem hx)
theorem GSt.sok (h : GSt H g n e st ns ord es f) : ∀ x ∈ ns, PyData.strOk x = true := fun x hx => (h.ok.names.ok x hx).sok
theorem GSt.eok (h : GSt H g n e st ns ord es f) : EsOk ns (es.map (·.2)) f := by
  refine ⟨fun x hx z => ?_, h.ok.mem, h.tri, fun x hx => ?_⟩
  · have := h.ok.lt x hx
    rw [z] at this
    exact sLt_irrefl _ this
  · obtain ⟨y, hy, rfl⟩ := List.mem_map.mp hx
    exact h.pro y hy
end
end Law

namespace Law
open PySem PySem.Spec PyProof.Rows L2 U


section
variable {P : Program} {w : World} {K : PySem.W.Frag} {mg : Str → Option Value} {base : Heap}
theorem nbrF_take {es : List (Str × Str)} {x : Str} {i : Nat} (h : i < es.length) : nbrF (es.take (i + 1)) x = nbrF (es.take i) x ++ ((if es[i].1 = x then [es[i].2] else []) ++ (if es[i].2 = x then [es[i].1] else [])) := by
  unfold nbrF
  rw [List.take_succ, List.getElem?_eq_getElem h, List.flatMap_append]
  simp
theorem nbrF_len {x : Str} : ∀ {es : List (Str × Str)}, (nbrF es x).length ≤ 2 * es.length
  | [] => by simp [nbrF]
  | e :: es => by
    have := nbrF_len (x := x) (es := es)
    unfold nbrF at *
    rw [List.flatMap_cons, List.length_append, List.length_append, List.length_cons]
    split <;> split <;> simp only [List.length_cons, List.length_nil] <;> omega
end
end Law

namespace Law
open PySem PySem.Spec PyProof.Rows L2 U


/-- the moves' pairs stand -/
def TupsAt (H : Hp) (ms : List (Addr × Str × Int)) : Prop := ∀ m ∈ ms, H m.1 = some (.tup [.str m.2.1, .int m.2.2])
theorem TupsAt.nil {H : Hp} : TupsAt H [] := fun m hm => nomatch hm
theorem TupsAt.same {H H' : Hp} {ms : List (Addr × Str × Int)} (h : TupsAt H ms) (s : Same H H') : TupsAt H' ms := fun m hm => s _ _ (h m hm)
theorem TupsAt.app {H : Hp} {ms ms2 : List (Addr × Str × Int)} (h : TupsAt H ms) (h2 : TupsAt H ms2) : TupsAt H (ms ++ ms2) := fun m hm => (List.mem_append.mp hm).elim (h m) (h2 m)
theorem TupsAt.put {H : Hp} {ms : List (Addr × Str × Int)} {a : Addr} {xs ys : List V} (h : TupsAt H ms) (ha : H a = some (.lst xs)) : TupsAt (upd H a (.lst ys)) ms := fun m hm => at_upd (ne_of (h m hm) ha (by intro z; cases z)) (h m hm)
theorem TupsAt.new {H : Hp} {ms : List (Addr × Str × Int)} {a : Addr} {o : HO} (h : TupsAt H ms) (ha : H a = none) : TupsAt (upd H a o) ms := fun m hm => at_upd (ne_of_none (h m hm) ha) (h m hm)
section
variable {P : Program} {w : World} {K : PySem.W.Frag} {mg : Str → Option Value} {base : Heap}
end
end Law

namespace Law
open PySem PySem.Spec PyProof.Rows L2 U


theorem moves_dp {K : PySem.W.Frag} {H : Hp} : ∀ {ms : List (Addr × Str × Int)}, TupsAt H ms → DpAll K H (ms.map fun m => V.ref m.1) (ms.map fun m => PyData.tuple [.str m.2.1, .int m.2.2])
  | [], _ => .nil
  | m :: ms, h => .cons (.tup (SqT.of (h m List.mem_cons_self)) (.cons (.str _) (.cons (.int _) .nil))) (moves_dp fun x hx => h x (List.mem_cons_of_mem _ hx))
theorem moves_can : ∀ {ms : List (Addr × Str × Int)}, (∀ m ∈ ms, PyData.strOk m.2.1 = true) → PyData.canLayAll0 (ms.map fun m => PyData.tuple [.str m.2.1, .int m.2.2]) = true
  | [], _ => by simp [PyData.canLayAll0]
  | m :: ms, h => by
    rw [List.map_cons, PyData.canLayAll0, moves_can fun x hx => h x (List.mem_cons_of_mem _ hx), PyData.canLay0, PyData.canLayAll0, PyData.canLayAll0, PyData.canLayAll0, PyData.canLay0, PyData.canLay0, h m List.mem_cons_self]
    rfl
theorem moves_dep : ∀ {ms : List (Addr × Str × Int)}, PyData.depthAll (ms.map fun m => PyData.tuple [.str m.2.1, .int m.2.2]) ≤ 60
  | [] => by simp [PyData.depthAll]
  | m :: ms => by
    have := moves_dep (ms := ms)
    rw [List.map_cons, PyData.depthAll, PyData.depth, PyData.depthAll, PyData.depthAll, PyData.depthAll, PyData.depth, PyData.depth]
    omega
/-- [..] != [], of moves -/
theorem rd_neMoves {K : PySem.W.Frag} {H : Hp} {Q : VK} {p q : Addr} {ms : List (Addr × Str × Int)} (hp : H p = some (.lst (ms.map fun m => V.ref m.1))) (tm : TupsAt H ms) (ok : ∀ m ∈ ms, PyData.strOk m.2.1 = true) (hq : H q = some (.lst [])) (h : Q (.bl (!ms.isEmpty)) H) : rNeU K (.ref p) (.ref q) H Q := by
  refine rd_neNilD (SqL.of hp) (moves_dp tm) (SqL.of hq) (moves_can ok) moves_dep ?_
  cases ms <;> exact h
theorem TupsAt.go {p : Addr} {H H' : Hp} {ms : List (Addr × Str × Int)} (h : TupsAt H ms) (hp : PoolAt H p) (g : Go p H H') : TupsAt H' ms := fun m hm => by
  obtain ⟨ys, hy⟩ := hp.isL
  exact g.but.tup hy (h m hm)
theorem Go.dK {p d : Addr} {H H' : Hp} {kvs : List (Key × V)} (g : Go p H H') (hp : PoolAt H p) (h : H d = some (.dK kvs)) : H' d = some (.dK kvs) := by
  obtain ⟨ys, hy⟩ := hp.isL
  exact g.but.dK hy h
theorem Go.tup {p d : Addr} {H H' : Hp} {xs : List V} (g : Go p H H') (hp : PoolAt H p) (h : H d = some (.tup xs)) : H' d = some (.tup xs) := by
  obtain ⟨ys, hy⟩ := hp.isL
  exact g.but.tup hy h
section
variable {P : Program} {w : World} {K : PySem.W.Frag} {mg : Str → Option Value} {base : Heap}
end
end Law

/-! repr of a list of data, dicts among it -/
namespace U
open PySem PySem.Spec PyProof.Rows L2
mutual
def tupOnly : PyData → Bool
  | .none | .bool _ | .int _ | .str _ => true
  | .tuple xs => tupOnlyAll xs
  | .list _ | .dict _ => false
def tupOnlyAll : List PyData → Bool
  | [] => true
  | x :: xs => tupOnly x && tupOnlyAll xs
end
mutual
theorem reads_nil {h : Heap} : ∀ (d : PyData) (v : Value) (as : List Addr), Reads h v d as → tupOnly d = true → as = []
  | .none, _, _, r, _ => by cases r; rfl
  | .bool _, _, _, r, _ => by cases r; rfl
  | .int _, _, _, r, _ => by cases r; rfl
  | .str _, _, _, r, _ => by cases r; rfl
  | .tuple xs, _, _, r, t => by
    cases r with
    | tuple h1 h2 h3 h4 => exact readsAll_nil xs _ _ h4 (by simpa [tupOnly] using t)
  | .list _, _, _, _, t => by simp [tupOnly] at t
  | .dict _, _, _, _, t => by simp [tupOnly] at t
theorem readsAll_nil {h : Heap} : ∀ (ds : List PyData) (vs : List Value) (as : List Addr), ReadsAll h vs ds as → tupOnlyAll ds = true → as = []
  | [], _, _, r, _ => by cases r; rfl
  | d :: ds, _, _, r, t => by
    rw [tupOnlyAll, Bool.and_eq_true] at t
    cases r with
    | cons r1 r2 => rw [reads_nil d _ _ r1 t.1, readsAll_nil ds _ _ r2 t.2]; rfl
end
/-- an item of the list: data of tuples, or a dict of numbers -/
inductive Di (K : PySem.W.Frag) (H : Hp) : V → PyData → Prop
  | of {v : V} {d : PyData} : Dp K H v d → tupOnly d = true → Di K H v d
  | dct {a : Addr} {ns : List Str} {f : Str → Int} : H a = some (.dK (kvF ns f)) → Di K H (.ref a) (.dict (ns.map fun n => (.str n, .int (f n))))
inductive DiAll (K : PySem.W.Frag) (H : Hp) : List V → List PyData → Prop
  | nil : DiAll K H [] []
  | cons {v : V} {vs : List V} {d : PyData} {ds : List PyData} : Di K H v d → DiAll K H vs ds → DiAll K H (v :: vs) (d :: ds)
structure Shows (d : PyData) : Prop where
  sh : d.showable = true
  lv : d.leavesShort 13 = true
  bk : d.bulk ≤ 2 ^ 20
  dp : d.depth ≤ 50
def rReprL (K : PySem.W.Frag) : List V → Hp → VK → Prop := fun xs H Q => match xs with
  | [.ref a] => (∃ xs ds, H a = some (.lst xs) ∧ (a == sysModules) = false ∧ DiAll K H xs ds ∧ Shows (.list ds) ∧ Q (.str (PyData.list ds).shown) H) ∨
      ∃ d, Dp K H (.ref a) d ∧ d.hasDict = false ∧ Shows d ∧ Q (.str d.shown) H
  | _ => False
section
variable {X : Cx} {pins : List (Addr × Obj)} {σ : L2.St} {H : Hp} {s : Shared}
theorem Di.reads (I : Inv X pins σ H s) {v : V} {d : PyData} {u : Value} (h : Di X.K H v d) (r : RelV v u) : ∃ as, Reads s.heap u d as ∧ sysModules ∉ as := by
  cases h with
  | of h t =>
    obtain ⟨as, q⟩ := Dp.reads I _ _ _ h r
    have := reads_nil _ _ _ q t
    subst this
    exact ⟨_, q, List.not_mem_nil⟩
  | dct h =>
    cases r
    obtain ⟨_, hd, vs, rel, dd⟩ := dk_of I.hok h
    refine ⟨_, PyProof.V.reads_dictOf key_reads dd (kv_pairs rel), ?_⟩
    intro z
    rw [List.mem_singleton] at z
    rw [z] at hd
    simp at hd
theorem DiAll.reads (I : Inv X pins σ H s) : ∀ {vs : List V} {ds : List PyData} {us : List Value}, DiAll X.K H vs ds → Vals vs us → ∃ as, ReadsAll s.heap us ds as ∧ sysModules ∉ as
  | [], _, _, h, r => by
    cases h
    cases r
    exact ⟨_, .nil, List.not_mem_nil⟩
  | v :: vs, _, _, h, r => by
    cases h with
    | cons h1 h2 =>
      cases r with
      | cons r1 r2 =>
        obtain ⟨as, q1, n1⟩ := h1.reads I r1
        obtain ⟨bs, q2, n2⟩ := DiAll.reads I h2 r2
        exact ⟨_, .cons q1 q2, fun z => (List.mem_append.mp z).elim n1 n2⟩
theorem kReprL (K : PySem.W.Frag) (hK : X.K = K) (hg : X.A.guards = some []) (hu : X.A.units + 64 < cLine) : CallR X (.builtin "repr") (rReprL K) := by
  subst hK
  intro pins s σ H xs us Q I r h
  match xs, h with
  | [.ref a], h =>
    cases r with
    | cons r rr =>
      cases rr
      cases r
      have fin : ∀ (d : PyData) (as : List Addr), Reads s.heap (.ref a) d as → (d.hasDict = true → sysModules ∉ as) → Shows d → Q (.str d.shown) H → wpAny (model X.prog X.w) X.A (call (.builtin "repr") [.ref a]) (EP X pins σ Q) X.xe s := by
        intro d as rd hsm S q
        have hdp := S.dp
        refine PySem.repr_of_reads' rd S.sh hsm hg (by omega) (fun b o e => e) (fun h' u tk hk => ⟨.str d.shown, H, I.kept (t' := tk) hk, ⟨_, rfl⟩, q⟩) (PyData.shown_fits_bulk (by decide) (by decide) S.lv S.bk)
      rcases h with ⟨xs, ds, ha, hn, hd, S, q⟩ | ⟨d, hd, hx, S, q⟩
      · obtain ⟨its, rv, ⟨o, n, ho, hc, _, hdat⟩, _⟩ := I.list (SqL.of ha)
        obtain ⟨as, ra, na⟩ := hd.reads I rv
        refine fin _ _ (Reads.list ho hc hdat (by simpa using ra)) (fun _ z => ?_) S q
        rcases List.mem_cons.mp z with z | z
        · rw [← z] at hn
          simp at hn
        · exact na z
      · obtain ⟨as, ra⟩ := Dp.reads I d _ _ hd rfl
        exact fin d as ra (fun z => by rw [hx] at z; cases z) S q
end
/-! the shapes -/
abbrev dMv (ms : List (Str × Int)) : PyData := .list (ms.map fun m => .tuple [.str m.1, .int m.2])
theorem IsName.lv {z : Str} (h : IsName z) : (PyData.str z).leavesShort 13 = true := by
  rw [PyData.leavesShort, List.all_eq_true]
  intro x hx
  have := h.ch x hx
  rw [decide_eq_true_eq]
  omega
theorem IsName.bk {z : Str} (h : IsName z) : (PyData.str z).bulk ≤ 8 := by
  rw [PyData.bulk]
  exact h.hi
theorem int3_lv {i : Int} (h0 : 0 ≤ i) (h1 : i < 3) : (PyData.int i).leavesShort 13 = true ∧ (PyData.int i).showable = true := by
  have : i = 0 ∨ i = 1 ∨ i = 2 := by omega
  rcases this with rfl | rfl | rfl <;> exact ⟨by decide +kernel, by decide +kernel⟩
end U

namespace Law
open PySem PySem.Spec PyProof.Rows L2 U


theorem take_snoc {α : Type} {xs : List α} {i : Nat} (hi : i < xs.length) : xs.take (i + 1) = xs.take i ++ [xs[i]] := by
  rw [List.take_succ, List.getElem?_eq_getElem hi]
  rfl
theorem not_take {α : Type} {xs : List α} {i : Nat} (nd : xs.Nodup) (hi : i < xs.length) : xs[i] ∉ xs.take i := by
  intro hm
  obtain ⟨j, hj, e⟩ := List.mem_iff_getElem.mp hm
  rw [List.length_take] at hj
  have e' : xs[j] = xs[i] := by rw [← e, List.getElem_take]
  have z := List.pairwise_iff_getElem.mp (List.nodup_iff_pairwise_ne.mp nd)
  exact z j i (by omega) hi (by omega) e'
theorem lk_same {H H' : Hp} {a : Addr} {kvs : List (Key × V)} (ha : H a = some (.dK kvs)) (but : But a H H') : Same H (upd H' a (.dK kvs)) := fun b o hb => by
  by_cases e : b = a
  · subst e
    rw [ha] at hb
    rw [upd_same]
    exact hb
  · exact at_upd e (but b o e hb)
/-- the lists of the nodes' neighbours -/
structure AdjAt (H : Hp) (d : Addr) (ns : List Str) (es : List (Str × Str)) (A : Str → Addr) : Prop where
  di : H d = some (.dK (kvG ns fun n => .ref (A n)))
  li : ∀ n ∈ ns, ∃ ys : List Str, H (A n) = some (.lst (ys.map V.str)) ∧ ys.Perm (nbrF es n) ∧ ys.Pairwise fun a b => ¬ sLt b a
theorem AdjAt.same {H H' : Hp} {d : Addr} {ns : List Str} {es : List (Str × Str)} {A : Str → Addr} (h : AdjAt H d ns es A) (s : Same H H') : AdjAt H' d ns es A :=
  ⟨s _ _ h.di, fun n hn => by
    obtain ⟨ys, h1, h2⟩ := h.li n hn
    exact ⟨ys, s _ _ h1, h2⟩⟩
/-- a graph stands -/
structure GrS (H : Hp) (g n e : Addr) (ns : List Str) (es : List (Addr × Str × Str)) : Prop where
  gr : GrAt H g n e ns es
  ok : GrOk ns (es.map (·.2))
  l2 : ns.length ≤ 100
  l3 : es.length ≤ 1000
theorem GSt.grs {H : Hp} {g n e st : Addr} {ns ord : List Str} {es : List (Addr × Str × Str)} {f : Str → Int} (h : GSt H g n e st ns ord es f) : GrS H g n e ns es := ⟨h.gr, h.ok, h.l2, h.l3⟩
theorem GrS.same {H H' : Hp} {g n e : Addr} {ns : List Str} {es : List (Addr × Str × Str)} (h : GrS H g n e ns es) (s : Same H H') : GrS H' g n e ns es := ⟨h.gr.same s, h.ok, h.l2, h.l3⟩
theorem GrS.nd {H : Hp} {g n e : Addr} {ns : List Str} {es : List (Addr × Str × Str)} (h : GrS H g n e ns es) : ns.Nodup := asc_nodup h.ok.names.asc
theorem GrS.inE {H : Hp} {g n e : Addr} {ns : List Str} {es : List (Addr × Str × Str)} (h : GrS H g n e ns es) : ∀ x ∈ es, x.2.1 ∈ ns ∧ x.2.2 ∈ ns := fun x hx => h.ok.mem _ (List.mem_map_of_mem hx)
theorem GrS.ne {H : Hp} {g n e : Addr} {ns : List Str} {es : List (Addr × Str × Str)} (h : GrS H g n e ns es) : ∀ x ∈ es.map (·.2), x.1 ≠ x.2 := fun x hx z => by
  have := h.ok.lt x hx
  rw [z] at this
  exact sLt_irrefl _ this
def spAdj : Sp := fun vs H Q _ => ∃ (g n e : Addr) (ns : List Str) (es : List (Addr × Str × Str)), vs = [.ref g] ∧ GrS H g n e ns es ∧
  ∀ (d : Addr) (A : Str → Addr) (H' : Hp), Same H H' → H d = none → AdjAt H' d ns (es.map (·.2)) A → Q (.ref d) H'
def spAdjF : Sp := fun vs H Q _ => ∃ (g n e : Addr) (ns : List Str) (es : List (Addr × Str × Str)), vs = [.ref g] ∧ GrS H g n e ns es ∧
  ∀ (d : Addr) (A : Str → Addr) (H' : Hp), Same H H' → H d = none → AdjAt H' d ns (es.map (·.2)) A → (∀ m ∈ ns, H (A m) = none) → Q (.ref d) H'
theorem adj_weak {vs : List V} {H : Hp} {Q : VK} {E : XK} (h : spAdj vs H Q E) : spAdjF vs H Q E := by
  obtain ⟨g, n, e, ns, es, e1, gs, q⟩ := h
  exact ⟨g, n, e, ns, es, e1, gs, fun d A H' s n a _ => q d A H' s n a⟩
theorem FnG.weak {P : Program} {w : World} {K : PySem.W.Frag} {mg : Str → Option Value} {base : Heap} {CX : CXT} {k : Nat} {f : Addr} {fd : FuncData} {ps : List Str} {sp sp' : Sp} (F : FnG P w K mg base CX k f fd ps sp) (h : ∀ vs H Q E, sp' vs H Q E → sp vs H Q E) : FnG P w K mg base CX k f fd ps sp' :=
  ⟨fun vs H Q E z => F.len vs H Q E (h vs H Q E z), fun A outer s H args us vs Q E r e b v z => F.go A outer s H args us vs Q E r e b v (h vs H Q E z)⟩
theorem Cal.weak {P : Program} {w : World} {K : PySem.W.Frag} {mg : Str → Option Value} {base : Heap} {CX : CXT} {k : Nat} {x : Str} {sp sp' : Sp} (C : Cal P w K mg base CX k x sp) (h : ∀ vs H Q E, sp' vs H Q E → sp vs H Q E) : Cal P w K mg base CX k x sp' := by
  obtain ⟨f, fd, ps, F, r⟩ := C.ex
  exact ⟨⟨f, fd, ps, FnG.weak F h, r⟩⟩
/-- what grows at d: lists, one a name, apart -/
structure Grow (H H' : Hp) (d : Addr) (ns : List Str) (A : Str → Addr) (L : Str → List Str) : Prop where
  sm : Same H H'
  di : H' d = some (.dK (kvG ns fun n => .ref (A n)))
  li : ∀ n ∈ ns, H' (A n) = some (.lst ((L n).map V.str)) ∧ H (A n) = none
  ap : ∀ n ∈ ns, ∀ m ∈ ns, A n = A m → n = m
theorem Grow.put {H H' : Hp} {d : Addr} {ns : List Str} {A : Str → Addr} {L : Str → List Str} {n : Str} {ys : List Str} (h : Grow H H' d ns A L) (hn : n ∈ ns) : Grow H (upd H' (A n) (.lst (ys.map V.str))) d ns A (updV L n ys) := by
  refine ⟨same_put h.sm (h.li n hn).2, at_upd (ne_of h.di (h.li n hn).1 (by intro z; cases z)) h.di, fun m hm => ⟨?_, (h.li m hm).2⟩, h.ap⟩
  unfold updV
  by_cases e : m = n
  · subst e
    rw [if_pos rfl, upd_same]
  · rw [if_neg e]
    exact at_upd (fun z => e (h.ap m hm n hn z)) (h.li m hm).1
section
variable {P : Program} {w : World} {K : PySem.W.Frag} {mg : Str → Option Value} {base : Heap}
theorem ok_adjF {f : Addr} {fd : FuncData} (F : Fun K "adjacency" "adjacency" s_adjacency f fd) (B : Bt mg) : FnG P w K mg base CX0 1 f fd ["graph"] spAdjF := by
  refine fnG0 F sc_adjacency (fun vs H Q E h => ?_) (fun cdv A outer s H vs Q E hr h => ?_)
  · obtain ⟨g, n, e, ns, es, rfl, _⟩ := h
    rfl
  · obtain ⟨g, n, e, ns, es, rfl, gs, q⟩ := h
    have nd := sc_adjacency.nd
    have hu := hr.u1
    refine ⟨_, (pss_cons (ps_asg (pv 0) (kg_tup (n := 2) K rfl rfl (pgs_cons (pg_name (i := 1) nd rfl (by first | exact Or.inl rfl | exact Or.inr rfl)) (pgs_cons (pg_name (i := 2) nd rfl (by first | exact Or.inl rfl | exact Or.inr rfl)) pgs_nil))))
  (pss_cons (ps_setDc (i := 3) (own := [("node", 4)]) rfl nd rfl rfl (sw_dict rfl rfl rfl (by decide +kernel)) (ki_tup K rfl (pv 1)) (blkOk_by (own := [("node", 4)]) (N := nN_adjacency) (sc := defScope s_adjacency) (by decide +kernel)) (fun _ _ _ _ _ => (pg_name (i := 4) nd rfl (by first | exact Or.inl rfl | exact Or.inr rfl))) (fun _ _ _ _ _ => pts_nil) (fun _ _ _ _ _ => (pv 4)) (fun _ _ _ _ _ => (pe_lst pa_nil)))
  (pss_cons (ps_for PassesOwn.never rfl (ki_tup K rfl (pv 2)) (kg_tup (n := 2) K rfl rfl (pgs_cons (pg_name (i := 5) nd rfl (by first | exact Or.inl rfl | exact Or.inr rfl)) (pgs_cons (pg_name (i := 6) nd rfl (by first | exact Or.inl rfl | exact Or.inr rfl)) pgs_nil))) (pss_cons (ps_expr (pe_bm PySem.F.plainAttrs_list PySem.F.slot_list_append PySem.F.type_list_append mt_append (pe_dget hu (pv 3) (pv 5) (fun _ _ => rfl)) (pa_cons (pv 6) pa_nil)))
  (pss_one (ps_expr (pe_bm PySem.F.plainAttrs_list PySem.F.slot_list_append PySem.F.type_list_append mt_append (pe_dget hu (pv 3) (pv 6) (fun _ _ => rfl)) (pa_cons (pv 5) pa_nil))))))
  (pss_one (ps_ret (pe_lock (pe_dc (own := [("node", 4), ("some", 7)]) rfl nd (pi_items (pv 3)) (blkOk_by (own := [("node", 4), ("some", 7)]) (N := nN_adjacency) (sc := defScope s_adjacency) (by decide +kernel)) (fun _ _ _ _ _ => (kg_tup (n := 2) K rfl rfl (pgs_cons (pg_name (i := 4) nd rfl (by first | exact Or.inl rfl | exact Or.inr rfl)) (pgs_cons (pg_name (i := 7) nd rfl (by first | exact Or.inl rfl | exact Or.inr rfl)) pgs_nil)))) (fun _ _ _ _ _ => pts_nil) (fun _ _ _ _ _ => (pv 4)) (fun _ _ _ _ _ => (pe_callB (kSorted K rfl hr.u64) (by rfl) B.sorted bb_sorted (pa_cons (pv 7) pa_nil)))))))))), ?_⟩
    wtm_at "rd"
    refine rd_unp (SqT.of gs.gr.top) rfl ?_
    wtm_at "rd"
    refine rd_forT (SqT.of gs.gr.nodes) ?_
    intro D fD
    refine dcW (walk_tup (K := K) (a := n) (xs := ns.map V.str)) (fun i H' => ∃ A : Str → Addr, Grow H H' D (ns.take i) A (fun _ => [])) ⟨fun _ => 0, Same.new fD, upd_same, (fun n hn => nomatch hn), fun n hn => nomatch hn⟩ ?_ ?_ ?_
    · rintro i H' hi ⟨A, gw⟩
      exact SqT.of (gw.sm _ _ gs.gr.nodes)
    · rintro i x H' H2 hi ⟨A, gw⟩ ⟨rfl, hx⟩
      obtain ⟨hin, rfl⟩ := map_at hx
      wtm_at "rd"
      intro t ft
      refine rd_accD (k := .inr ns[i]) rfl (at_upd (ne_of_none gw.di ft) gw.di) (by rw [List.length_map, List.length_take]; have := gs.l2; omega) ?_
      have ntD : t ≠ D := Ne.symm (ne_of_none gw.di ft)
      have nin := not_take gs.nd hin
      have nt : ∀ m ∈ ns.take i, A m ≠ t := fun m hm => ne_of_none (gw.li m hm).1 ft
      refine ⟨updV A ns[i] t, same_put (same_add gw.sm ft) fD, ?_, ?_, ?_⟩
      · rw [upd_same, kvG_new nin, take_snoc hin]
        congr 2
        refine List.map_congr_left fun m _ => ?_
        show ((Sum.inr m : Key), updV (fun n => V.ref (A n)) ns[i] (.ref t) m) = (Sum.inr m, V.ref (updV A ns[i] t m))
        unfold updV
        by_cases z : m = ns[i]
        · rw [if_pos z, if_pos z]
        · rw [if_neg z, if_neg z]
      · intro m hm
        rw [take_snoc hin] at hm
        unfold updV
        rcases List.mem_append.mp hm with hm | hm
        · rw [if_neg (fun z => nin (by rw [← z]; exact hm))]
          exact ⟨at_upd (ne_of (gw.li m hm).1 gw.di (by intro z; cases z)) (at_upd (nt m hm) (gw.li m hm).1), (gw.li m hm).2⟩
        · rw [List.mem_singleton] at hm
          rw [if_pos hm]
          exact ⟨at_upd ntD upd_same, new_of_same gw.sm ft⟩
      · intro m hm m2 hm2 z
        rw [take_snoc hin] at hm hm2
        unfold updV at z
        rcases List.mem_append.mp hm with hm | hm <;> rcases List.mem_append.mp hm2 with hm2 | hm2
        · rw [if_neg (fun y => nin (by rw [← y]; exact hm)), if_neg (fun y => nin (by rw [← y]; exact hm2))] at z
          exact gw.ap m hm m2 hm2 z
        · rw [List.mem_singleton] at hm2
          rw [if_neg (fun y => nin (by rw [← y]; exact hm)), if_pos hm2] at z
          exact absurd z (nt m hm)
        · rw [List.mem_singleton] at hm
          rw [if_pos hm, if_neg (fun y => nin (by rw [← y]; exact hm2))] at z
          exact absurd z.symm (nt m2 hm2)
        · rw [List.mem_singleton] at hm hm2
          rw [hm, hm2]
    rintro H1 ⟨A, gw⟩
    rw [List.length_map, List.take_length] at gw
    wtm_at "rd"
    refine rd_forT (SqT.of (gw.sm _ _ gs.gr.edges)) ?_
    refine turnsT (K := K) (xs := es.map fun x => V.ref x.1) (fun i σ H' => ∃ u4 u5 u6 u7 : Option V, σ = [some (.ref g), some (.ref n), some (.ref e), some (.ref D), u4, u5, u6, u7] ∧ Grow H H' D ns A (fun m => nbrF ((es.map (·.2)).take i) m)) ⟨_, _, _, _, rfl, gw⟩ ?_ ?_ ?_
    · rintro i σ H' hi ⟨u4, u5, u6, u7, rfl, gw⟩
      exact SqT.of (gw.sm _ _ gs.gr.edges)
    · rintro i y σ H' hy ⟨u4, u5, u6, u7, rfl, gw⟩
      obtain ⟨hi, rfl⟩ := map_at hy
      have hm := List.getElem_mem hi
      obtain ⟨m1, m2⟩ := gs.inE _ hm
      have hne : es[i].2.1 ≠ es[i].2.2 := gs.ne es[i].2 (List.mem_map_of_mem hm)
      have hi2 : i < (es.map (·.2)).length := by rw [List.length_map]; exact hi
      have len : ∀ m, (nbrF ((es.map (·.2)).take i) m).length ≤ 2000 := fun m => by
        have := nbrF_len (x := m) (es := (es.map (·.2)).take i)
        rw [List.length_take, List.length_map] at this
        have := gs.l3
        omega
      have tk : ∀ m, nbrF ((es.map (·.2)).take (i + 1)) m = nbrF ((es.map (·.2)).take i) m ++ ((if es[i].2.1 = m then [es[i].2.2] else []) ++ (if es[i].2.2 = m then [es[i].2.1] else [])) := fun m => by
        have := nbrF_take (x := m) hi2
        rw [List.getElem_map] at this
        exact this
      refine rd_unp (SqT.of (gw.sm _ _ (gs.gr.pairs _ hm))) rfl ?_
      wtm_at "rd"
      refine rd_dat (.inl gw.di) (kvG_val m1) rfl ?_
      refine rd_tyL (gw.li _ m1).1 ?_
      wtm_at "rd"
      refine rd_append (gw.li _ m1).1 (by rw [List.length_map]; have := len es[i].2.1; omega) ?_
      have gw2 := gw.put (ys := nbrF ((es.map (·.2)).take i) es[i].2.1 ++ [es[i].2.2]) m1
      rw [List.map_append] at gw2
      wtm_at "rd"
      refine rd_dat (.inl gw2.di) (kvG_val m2) rfl ?_
      have l2 := (gw2.li _ m2).1
      have e2 : updV (fun m => nbrF ((es.map (·.2)).take i) m) es[i].2.1 (nbrF ((es.map (·.2)).take i) es[i].2.1 ++ [es[i].2.2]) es[i].2.2 = nbrF ((es.map (·.2)).take i) es[i].2.2 := if_neg (Ne.symm hne)
      rw [e2] at l2
      refine rd_tyL l2 ?_
      wtm_at "rd"
      refine rd_append l2 (by rw [List.length_map]; have := len es[i].2.2; omega) ?_
      have gw3 := gw2.put (ys := nbrF ((es.map (·.2)).take i) es[i].2.2 ++ [es[i].2.1]) m2
      rw [List.map_append] at gw3
      refine ⟨_, _, _, _, rfl, gw3.sm, gw3.di, fun m hm => ⟨?_, (gw3.li m hm).2⟩, gw3.ap⟩
      refine (gw3.li m hm).1.trans ?_
      congr 3
      rw [tk]
      unfold updV
      by_cases c2 : m = es[i].2.2
      · subst c2
        rw [if_pos rfl, if_neg hne, if_pos rfl, List.nil_append]
      · rw [if_neg c2]
        by_cases c1 : m = es[i].2.1
        · subst c1
          rw [if_pos rfl, if_pos rfl, if_neg (Ne.symm hne), List.append_nil]
        · rw [if_neg c1, if_neg (Ne.symm c1), if_neg (Ne.symm c2), List.append_nil, List.append_nil]
    rintro σ H2 ⟨u4, u5, u6, u7, rfl, gw2⟩
    rw [List.length_map, List.take_of_length_le (by rw [List.length_map]; exact Nat.le_refl _)] at gw2
    wtm_at "rd"
    refine rd_lockE gw2.di fun od => ?_
    wtm_at "rd"
    refine rd_forI upd_same ?_
    intro D2 fD2
    have nDa := new_ne fD2
    have fD20 := new_old fD2
    refine dcW walk_items (fun i H' => ∃ A2 : Str → Addr, But D H2 H' ∧ H' D = some (.frz od (.dK (kvG ns fun n => .ref (A n)))) ∧ H' D2 = some (.dK (kvG (ns.take i) fun n => .ref (A2 n))) ∧ (∀ m ∈ ns.take i, ∃ ys : List Str, H' (A2 m) = some (.lst (ys.map V.str)) ∧ (ys.Perm (nbrF (es.map (·.2)) m) ∧ ys.Pairwise fun a b => ¬ sLt b a)) ∧ ∀ m ∈ ns.take i, H (A2 m) = none)
      ⟨fun _ => 0, But.upd.trans (But.new fD2), at_upd (Ne.symm nDa) upd_same, upd_same, (fun m hm => nomatch hm), fun m hm => nomatch hm⟩ ?_ ?_ ?_
    · rintro i H' hi ⟨A2, _, hf, _⟩
      exact hf
    · rintro i x H' H3 hi ⟨A2, but, hf, hD, hl, fre⟩ ⟨T, x1, y1, rfl, fT, rfl, e1, e2⟩
      obtain ⟨hin, rfl, rfl⟩ := kvG_at e1 e2
      have hmem := List.getElem_mem hin
      have nin := not_take gs.nd hin
      have but2 : But D H2 (upd H' T (.tup [.str ns[i], .ref (A ns[i])])) := but.trans (But.new fT)
      have hf2 := at_upd (o := .tup [.str ns[i], .ref (A ns[i])]) (ne_of_none hf fT) hf
      have hD3 := at_upd (o := .tup [.str ns[i], .ref (A ns[i])]) (ne_of_none hD fT) hD
      have hl2 : ∀ m ∈ ns.take i, ∃ ys : List Str, upd H' T (.tup [.str ns[i], .ref (A ns[i])]) (A2 m) = some (.lst (ys.map V.str)) ∧ (ys.Perm (nbrF (es.map (·.2)) m) ∧ ys.Pairwise fun a b => ¬ sLt b a) := fun m hm => by
        obtain ⟨ys, z1, z2⟩ := hl m hm
        exact ⟨ys, at_upd (ne_of_none z1 fT) z1, z2⟩
      refine rd_unp (SqT.of upd_same) rfl ?_
      have ha := but2 _ _ (ne_of (gw2.li _ hmem).1 gw2.di (by intro z; cases z)) (gw2.li _ hmem).1
      generalize upd H' T (.tup [.str ns[i], .ref (A ns[i])]) = H4 at but2 hf2 hD3 hl2 ha
      wtm_at "rd"
      refine rd_sortS (SqL.of ha) (by have := nbrF_len (x := ns[i]) (es := es.map (·.2)); rw [List.length_map] at this; have := gs.l3; omega) ?_
      intro ys py sy l2 fl2
      refine rd_accD (k := .inr ns[i]) rfl (at_upd (ne_of_none hD3 fl2) hD3) (by rw [List.length_map, List.length_take]; have := gs.l2; omega) ?_
      have nl2D : l2 ≠ D2 := Ne.symm (ne_of_none hD3 fl2)
      have nH : H l2 = none := new_of_same gw2.sm (but2.free (Ne.symm (ne_of_none hf2 fl2)) fl2)
      refine ⟨updV A2 ns[i] l2, fun b' o' nb hb' => at_upd (ne_of_none hb' fD20) ((but2.trans (But.new fl2)) b' o' nb hb'), at_upd (Ne.symm nDa) (at_upd (ne_of_none hf2 fl2) hf2), ?_, ?_, ?_⟩
      · rw [upd_same, kvG_new nin, take_snoc hin]
        congr 2
        refine List.map_congr_left fun m _ => ?_
        show ((Sum.inr m : Key), updV (fun n => V.ref (A2 n)) ns[i] (.ref l2) m) = (Sum.inr m, V.ref (updV A2 ns[i] l2 m))
        unfold updV
        by_cases z : m = ns[i]
        · rw [if_pos z, if_pos z]
        · rw [if_neg z, if_neg z]
      · intro m hm
        rw [take_snoc hin] at hm
        unfold updV
        rcases List.mem_append.mp hm with hm | hm
        · rw [if_neg (fun z => nin (by rw [← z]; exact hm))]
          obtain ⟨zs, z1, z2⟩ := hl2 m hm
          exact ⟨zs, at_upd (ne_of z1 hD3 (by intro z; cases z)) (at_upd (ne_of_none z1 fl2) z1), z2⟩
        · rw [List.mem_singleton] at hm
          subst hm
          rw [if_pos rfl]
          exact ⟨ys, at_upd nl2D upd_same, py, sy⟩
      · intro m hm
        rw [take_snoc hin] at hm
        unfold updV
        rcases List.mem_append.mp hm with hm | hm
        · rw [if_neg (fun z => nin (by rw [← z]; exact hm))]
          exact fre m hm
        · rw [List.mem_singleton] at hm
          subst hm
          rw [if_pos rfl]
          exact nH
    rintro H' ⟨A2, but, hf, hD, hl, fre⟩
    rw [List.length_map, List.take_length] at hD hl fre
    refine ⟨hf, q D2 A2 _ (gw2.sm.trans (lk_same gw2.di but)) (new_of_same gw2.sm fD20) ⟨at_upd nDa hD, fun m hm => ?_⟩ fre⟩
    obtain ⟨ys, z1, z2⟩ := hl m hm
    exact ⟨ys, at_upd (ne_of z1 hf (by intro z; cases z)) z1, z2⟩
theorem ok_adj {f : Addr} {fd : FuncData} (F : Fun K "adjacency" "adjacency" s_adjacency f fd) (B : Bt mg) : FnG P w K mg base CX0 1 f fd ["graph"] spAdj := FnG.weak (ok_adjF F B) fun _ _ _ _ h => adj_weak h
end
end Law

namespace Law
open PySem PySem.Spec PyProof.Rows L2 U


section
variable {P : Program} {w : World} {K : PySem.W.Frag} {mg : Str → Option Value} {base : Heap}
end
end Law

namespace Law
open PySem PySem.Spec PyProof.Rows L2 U


def spIsInt (K : PySem.W.Frag) : Sp := fun vs H Q _ => ∃ (x : V) (a : Ty), vs = [x] ∧ TyIs K H x a ∧ Q (.bl (decide (a = .int))) H
def spIsMove (K : PySem.W.Frag) : Sp := fun vs H Q _ => ∃ (g n e st ad c ps : Addr) (x : Str) (v : Int) (ns ord pn : List Str) (es : List (Addr × Str × Str)) (f : Str → Int) (Ad : Str → Addr), vs = [.ref g, .ref st, .ref ad, .ref c, .ref ps] ∧ GSt H g n e st ns ord es f ∧
  AdjAt H ad ns (es.map (·.2)) Ad ∧ H c = some (.tup [.str x, .int v]) ∧ Legal ns (es.map (·.2)) f pn (x, v) ∧ SqT K H ps (pn.map V.str) ∧ ∀ H' : Hp, Same H H' → Q (.bl true) H'
theorem GSt.re {H : Hp} {g n e st st' : Addr} {ns ord : List Str} {es : List (Addr × Str × Str)} {f f' : Str → Int} (h : GSt H g n e st ns ord es f) (hs : H st' = some (.dK (kvF ord f'))) (ok : EsOk ns (es.map (·.2)) f') : GSt H g n e st' ns ord es f' :=
  ⟨h.gr, h.ok, h.pm, h.l2, h.l3, hs, ok.tri, fun x hx => ok.pro _ (List.mem_map_of_mem hx)⟩
section
variable {P : Program} {w : World} {K : PySem.W.Frag} {mg : Str → Option Value} {base : Heap}
theorem ok_is_integer {f : Addr} {fd : FuncData} (F : Fun K "is_integer" "is_integer" s_is_integer f fd) (B : Bt mg) (Bb : mg "bool" = none) : FnG P w K mg base CX0 1 f fd ["candidate"] (spIsInt K) := by
  refine fnG0 F sc_is_integer (fun vs H Q E h => ?_) (fun cdv A outer s H vs Q E hr h => ?_)
  · obtain ⟨x, a, rfl, _⟩ := h
    rfl
  · obtain ⟨x, a, rfl, hx, q⟩ := h
    have nd := sc_is_integer.nd
    refine ⟨_, (pss_one (ps_ret (pe_and (pe_callB (kIsi K rfl) (by rfl) B.isinstance bb_isinstance (pa_cons (pv 0) (pa_cons (pe_ty rfl B.int bb_int) pa_nil))) (pe_one (pe_not (pe_callB (kIsi K rfl) (by rfl) B.isinstance bb_isinstance (pa_cons (pv 0) (pa_cons (pe_ty rfl Bb bb_bool) pa_nil)))))))), ?_⟩
    wtm_at "rd"
    refine rd_isi hx (t := .int) (by decide +kernel) ?_
    wtm_at "rd"
    refine rd_b (fun c => ?_) (fun c => ?_)
    · wtm_at "rd"
      refine rd_isi hx (t := .bl) (by decide +kernel) ?_
      wtm_at "rd"
      have : (!isT a .bl) = decide (a = .int) := by revert c; cases a <;> decide +kernel
      rw [this]
      exact q
    · have : decide (a = Ty.int) = false := by revert c; cases a <;> decide +kernel
      rw [this] at q
      exact q
structure C8 (P : Program) (w : World) (K : PySem.W.Frag) (mg : Str → Option Value) (base : Heap) : Prop where
  adjacency : Cal P w K mg base CX0 1 "adjacency" spAdj
  is_move : Cal P w K mg base CX0 3 "is_move" (spIsMove K)
end
end Law

/-! exceptions that outlive their handler; own classes over own classes -/
namespace U
open PySem PySem.Spec PyProof.Rows L2
/-- at a: an exception of the class cls, its dict at d -/
def exk (a : Addr) (cls : Value) (d : Option Addr) : HO := .ext fun h => ∃ oe vs, h.get? a = some oe ∧ Zc cls d oe ∧ oe.data = .fields vs
theorem exk_ok {P : Program} {w : World} {H : Hp} {h : Heap} {a : Addr} {cls : Value} {d : Option Addr} {oe : Obj} {vs : Array Value} (e : h.get? a = some oe) (z : Zc cls d oe) (f : oe.data = .fields vs) : ObjOk P w H h a (exk a cls d) := by
  refine ⟨⟨oe, vs, e, z, f⟩, ⟨_, e⟩, fun h1 h2 t k => ?_⟩
  obtain ⟨o2, v2, e2, z2, f2⟩ := t
  exact ⟨o2, v2, k _ e2, z2, f2⟩
theorem exk_at {P : Program} {w : World} {H : Hp} {h : Heap} {a : Addr} {cls : Value} {d : Option Addr} (hok : HOk P w H h) (e : H a = some (exk a cls d)) : ∃ oe vs, h.get? a = some oe ∧ Zc cls d oe ∧ oe.data = .fields vs := by
  have t : ObjOk P w H h a (.ext fun h => ∃ oe vs, h.get? a = some oe ∧ Zc cls d oe ∧ oe.data = .fields vs) := hok a _ e
  exact t.1
section
variable {X : Cx} {pins : List (Addr × Obj)} {σ : L2.St} {H : Hp} {sI s' : Shared} {B : Heap} {a : Addr} {cls : Value} {d : Option Addr} {oe : Obj} {vs : Array Value}
/-- back on the ground, the exception tracked -/
theorem landed_k (I : Inv X pins σ H sI) (nb : ∀ b o, sI.heap.get? b = some o → b ∉ frs X.stack → B.get? b = some o) (st : B.StaysIn s'.heap) (up : sI.heap.UpToSlots s'.heap) (os : s'.os = sI.os) (ag : AllBare s'.gens)
    (hB : B.get? a = none) (nfr : a ∉ frs X.stack) (na : H a = none) (he : s'.heap.get? a = some oe) (hz : Zc cls d oe) (hd : oe.data = .fields vs) : Inv X pins σ (upd H a (exk a cls d)) s' := by
  have fr : ∀ b ∈ frs X.stack, ∀ o, sI.heap.get? b = some o → ∃ sl, s'.heap.get? b = some { o with slots := sl } := by
    intro b hb o e
    obtain ⟨_, o1, e1, h1⟩ := I.stack.mem hb
    rw [e] at e1
    cases e1
    exact up b o e h1
  have sIa : ∀ o, sI.heap.get? a ≠ some o := fun o e => by
    rw [nb a o e nfr] at hB
    cases hB
  have ok1 : HOk X.prog X.w H s'.heap := (I.inGround nb).kept st
  have ok2 : HOk X.prog X.w (upd H a (exk a cls d)) s'.heap := by
    intro b o e
    by_cases hb : b = a
    · subst hb
      rw [upd_same] at e
      cases e
      exact exk_ok he hz hd
    · rw [upd_ne hb] at e
      exact (ok1 b o e).stay (fun c v _ q => q) (fun c q => at_upd (ne_of_none q na) q) fun c xs q => at_upd (ne_of_none q na) q
  have J := I.call (ch := []) (h' := s'.heap) (g' := s'.gens) (t' := s'.toks) (d' := s'.drawn) (H' := upd H a (exk a cls d))
    { keep := fun b o e _ hb _ => st b o (nb b o e hb)
      slot := fun b o e _ hb _ => fr b hb o e
      free := fun b o e n _ => no_upd (fun z => sIa o (by rw [← z]; exact e)) n
      there := fun b o e _ => by
        by_cases hb : b ∈ frs X.stack
        · obtain ⟨sl, q⟩ := fr b hb o e
          exact ⟨_, q⟩
        · exact ⟨o, st b o (nb b o e hb)⟩
      tups := fun _ _ e => at_upd (ne_of_none e na) e
      frzs := fun _ _ _ e => at_upd (ne_of_none e na) e
      tbls := fun b ps e => ⟨#[], by rw [at_upd (ne_of_none e na) e]; simp⟩ } ok2 ag (fun _ z => nomatch z)
  obtain ⟨b1, b2, b3, b4, b5⟩ := s'
  have e5 : b5 = sI.os := os
  subst e5
  exact J
end
section
variable {X : Cx} {x n : Str} {c : Value} {i : Nat} {body suite : List Stmt} {b₀ : Stmt} {np pos pos' : Pos} {tb : WX → TS} {ts : TS} {Wout : WX}
end
/-! e.f of a tracked exception -/
def tXk (K : PySem.W.Frag) (f : Str) (te : TE) : TE := fun σ H Q => te σ H fun x H1 => ∃ (a C dd : Addr) (fs : List (Str × V)) (v : V), x = .ref a ∧ H1 a = some (exk a (.ref C) (some dd)) ∧ XfC K C ∧ PySem.W.findIn K (.ref C) f = some none ∧ H1 dd = some (.xd fs) ∧ fs.lookup f = some v ∧ Q v H1
theorem pe_xk {X : Cx} {e : Expr} {te : TE} {pos : Pos} {n : Str} (he : PE X e te) (hb : attributeBase e n X.env (eval e X.env) = eval e X.env := by rfl) : PE X (.Attribute e n pos) (tXk X.K n te) := by
  refine ⟨fun pins s σ H Q I want => attr_of hb (thn (he.run pins s σ H _ I want) fun u s1 got => ?_)⟩
  obtain ⟨x, H1, I1, rx, a, C, dd, fs, v, rfl, hk, T, hno, hdd, hl, q⟩ := got
  obtain rfl : u = Value.ref a := rx
  obtain ⟨oe, vs, h1, hz, hd⟩ := exk_at I1.hok hk
  have hx : ObjOk X.prog X.w H1 s1.heap dd (.xd fs) := I1.hok dd _ hdd
  obtain ⟨mA, hns, hr⟩ := hx
  obtain ⟨od, ho, hl2⟩ := lookIn_ns hns
  obtain ⟨u2, hu, ru⟩ := RelO.some_of (v := v) (o := mA n) (by rw [← hl]; exact hr n)
  have J : PySem.W.InstAt s1.heap a oe C (some od) := by
    refine ⟨h1, hz.1, ?_, ?_⟩
    · unfold PySem.W.notCls
      rw [hd] <;> rfl
    · rw [hz.2]
      exact ho
  exact HandSPX.exc_get I1.kIn J T.ga T.gg T.exC (PySem.W.findObj_own T.hdC hno rfl (by rw [hl2, hu])) (handed_of ru) ⟨v, H1, I1.tok _, ru, q⟩
/-! Base.__init__(self, ..), Base an own class over ValueError with no __init__ of its own -/
structure BaseI (K : PySem.W.Frag) (CB : Addr) : Prop where
  kp : PySem.W.keepIn K (.ref CB) = true
  ga : PySem.W.specialIn K (.ref CB) "__getattribute__" = some (some (.builtin "type.__getattribute__"))
  rd : PySem.W.readsIn K CB (.type "type") = true
  at_ : PySem.W.findCls K (.ref CB) (.type "type") "__init__" = some (.val (.builtin "ValueError.__init__"))
end U

/-! functions handed on: promises that speak of the cells which a handed function captured -/
namespace U
open PySem PySem.Spec PyProof.Rows L2 LamX NdefX
section
variable {P : Program} {w : World} {K : PySem.W.Frag} {mg : Str → Option Value} {base : Heap} {CX : CXT}
end
section
variable {X : Cx} {pins : List (Addr × Obj)} {σ : L2.St} {H : Hp} {s : Shared} {cl : List (Str × Addr)} {fr : List Str} {ws : List (Option V)} {js : List Nat}
end
end U

/-! enumerate(tuple) -/
namespace U
open PySem PySem.Spec PyProof.Rows L2
end U

/-! own exceptions with one field: made, raised, kept, read -/
namespace U
open PySem PySem.Spec PyProof.Rows L2
/-- __init__(self, v): the field f is v -/
def spInit1 (C : Addr) (f : Str) : Sp := fun vs H Q _ => ∃ (a : Addr) (v : V), vs = [.ref a, v] ∧ H a = some (exo a C none) ∧
  ∀ dx, H dx = none → dx ≠ a → Q .non (upd (upd H dx (exd dx [(f, v)])) a (exo a C (some dx)))
theorem rd_mk1 {C : Addr} {f : Str} {v : V} {H : Hp} {Q : XK} (h : ∀ (dd : Addr) (H' : Hp), Same H H' → H dd = none → H' dd = some (.xd [(f, v)]) → Q (.ref C) (some dd) H') :
    [v].length ≤ 1000 ∧ ∀ a, H a = none → spInit1 C f (.ref a :: ([v] ++ [])) (upd H a (exo a C none)) (fun w H2 => w = .non ∧ ∃ (d : Addr) (fs : List (Str × V)), H2 a = some (exo a C (some d)) ∧ H2 d = some (exd d fs) ∧ H d = none ∧ Q (.ref C) (some d) (upd (del H2 a) d (.xd fs))) (fun _ _ _ => False) := by
  refine ⟨(by show 1 ≤ 1000; decide), fun a na => ⟨a, v, rfl, upd_same, fun dx ndx nda => ⟨rfl, dx, [(f, v)], upd_same, ?_, ?_, ?_⟩⟩⟩
  · rw [upd_ne nda, upd_same]
  · rw [upd_ne nda] at ndx
    exact ndx
  · have nd0 : H dx = none := by
      rw [upd_ne nda] at ndx
      exact ndx
    refine h dx _ (fun b o e => ?_) nd0 upd_same
    have n1 : b ≠ dx := ne_of_none e nd0
    have n2 : b ≠ a := ne_of_none e na
    rw [upd_ne n1, del_ne n2, upd_ne n2, upd_ne n1, upd_ne n2]
    exact e
section
variable {σ : L2.St} {H : Hp} {Q : VK} {D : Ends} {K : PySem.W.Frag} {te : TE} {ta : TA}
end
/-! the class's facts, gathered -/
structure OwnX (K : PySem.W.Frag) (mg : Str → Option Value) (x : Str) (f : Str) (C CB fI : Addr) : Prop where
  gC : mg x = some (.ref C)
  ox : OexC K C
  no : PySem.W.findIn K (.ref C) f = some none
  iC : PySem.W.findIn K (.ref C) "__init__" = some (some (.ref fI))
  tI : PySem.W.typeIn K (.ref fI) = some (.type "function")
  xf : XfC K C
  gB : mg "InputError" = some (.ref CB)
  bi : BaseI K CB
  ex : PySem.W.exmOne K (.ref C) (.ref C) = some true
  eb : PySem.W.exmOne K (.ref C) (.ref CB) = some true
end U

/-! is_move of anything -/
namespace Law
open PySem PySem.Spec PyProof.Rows L2 U


/-- c: not a move by its form (o = none), or a text and a number -/
inductive CandAt (K : PySem.W.Frag) (H : Hp) : V → Option (Str × Int) → Prop
  | odd {c : V} {a : Ty} : TyIs K H c a → isT a .tup = false → CandAt K H c none
  | len {a : Addr} {xs : List V} : H a = some (.tup xs) → xs.length ≠ 2 → CandAt K H (.ref a) none
  | node {a : Addr} {x y : V} {t : Ty} : H a = some (.tup [x, y]) → TyIs K H x t → isT t .str = false → CandAt K H (.ref a) none
  | val {a : Addr} {x : Str} {y : V} {t : Ty} : H a = some (.tup [.str x, y]) → TyIs K H y t → t ≠ .int → CandAt K H (.ref a) none
  | mv {a : Addr} {x : Str} {v : Int} : H a = some (.tup [.str x, .int v]) → CandAt K H (.ref a) (some (x, v))
def spHasV (K : PySem.W.Frag) : Sp := fun vs H Q _ => ∃ (g n e : Addr) (x : V) (t : Ty) (ns : List Str) (es : List (Addr × Str × Str)), vs = [.ref g, x] ∧ GrAt H g n e ns es ∧ ((TyIs K H x t ∧ isT t .str = false ∧ Q (.bl false) H) ∨ ∃ s, x = .str s ∧ Q (.bl (decide (s ∈ ns))) H)
section
variable {P : Program} {w : World} {K : PySem.W.Frag} {mg : Str → Option Value} {base : Heap}
theorem ok_hasV {f : Addr} {fd : FuncData} (F : Fun K "has_node" "has_node" s_has_node f fd) (B : Bt mg) : FnG P w K mg base CX0 1 f fd ["graph", "candidate"] (spHasV K) := by
  refine fnG0 F sc_has_node (fun vs H Q E h => ?_) (fun cdv A outer s H vs Q E hr h => ?_)
  · obtain ⟨g, n, e, x, t, ns, es, rfl, _⟩ := h
    rfl
  · obtain ⟨g, n, e, x, t, ns, es, rfl, hg, q⟩ := h
    have nd := sc_has_node.nd
    refine ⟨_, (pss_one (ps_ret (pe_and (pe_callB (kIsi K rfl) (by rfl) B.isinstance bb_isinstance (pa_cons (pv 1) (pa_cons (pe_ty rfl B.str bb_str) pa_nil))) (pe_one (pe_cmpR (kIn K rfl) (pv 1) (pe_ix (kIx K rfl) (pv 0) pe_int (fun _ _ => rfl)) rfl))))), ?_⟩
    wtm_at "rd"
    rcases q with ⟨ht, hs, q⟩ | ⟨s, rfl, q⟩
    · refine rd_isi ht (t := .str) (by decide +kernel) ?_
      rw [hs]
      wtm_at "rd"
      exact q
    refine rd_isi ty_str (t := .str) (by decide +kernel) ?_
    rw [show isT .str .str = true from by decide +kernel]
    wtm_at "rd"
    refine rd_ixT (SqT.of hg.top) (v := .ref n) rfl ?_
    refine rd_inST (SqT.of hg.nodes) ?_
    exact q
end
end Law

/-! calls with keywords and defaults of a def that may raise -/
namespace U
open PySem PySem.Spec PyProof.Rows L2
/-- an own error with one field, its __init__ done -/
structure ErrX (P : Program) (w : World) (K : PySem.W.Frag) (mg : Str → Option Value) (base : Heap) (x f : Str) (C CB : Addr) : Prop where
  ex : ∃ (fI : Addr) (fd : FuncData), OwnX K mg x f C CB fI ∧ FnOk P w K mg base CX0 1 fI fd ["self", f] (spInit1 C f) ∧ Binds K fd ["self", f] []
theorem ErrX.ow {P : Program} {w : World} {K : PySem.W.Frag} {mg : Str → Option Value} {base : Heap} {x f : Str} {C CB : Addr} (h : ErrX P w K mg base x f C CB) : ∃ fI, OwnX K mg x f C CB fI := by
  obtain ⟨fI, fd, o, _⟩ := h.ex
  exact ⟨fI, o⟩
/-- raise X(e): reading rd_rz, e's, rd_mk1 -/
def tRz (C : Addr) (f : Str) (te : TE) (W : WX) : TS := fun _ σ H => tMkO C (spInit1 C f) [] (tCons te tNil) σ H fun cls d H' => W cls d σ H'
theorem rd_rz {C : Addr} {f : Str} {te : TE} {W : WX} {D : Ends} {σ : L2.St} {H : Hp} (h : tCons te tNil σ H fun vs H1 => vs.length ≤ 1000 ∧ ∀ a, H1 a = none → spInit1 C f (.ref a :: (vs ++ [])) (upd H1 a (exo a C none))
  (fun v H2 => v = .non ∧ ∃ (d : Addr) (fs : List (Str × V)), H2 a = some (exo a C (some d)) ∧ H2 d = some (exd d fs) ∧ H1 d = none ∧ W (.ref C) (some d) σ (upd (del H2 a) d (.xd fs))) (fun _ _ _ => False)) : tRz C f te W D σ H := h
end U

/-! apply_moves of anything -/
namespace Law
open PySem PySem.Spec PyProof.Rows L2 U


theorem rd_rz {C : Addr} {f : Str} {te : TE} {W : WX} {D : Ends} {σ : L2.St} {H : Hp} (h : tCons te tNil σ H fun vs H1 => vs.length ≤ 1000 ∧ ∀ a, H1 a = none → spInit1 C f (.ref a :: (vs ++ [])) (upd H1 a (exo a C none))
  (fun v H2 => v = .non ∧ ∃ (d : Addr) (fs : List (Str × V)), H2 a = some (exo a C (some d)) ∧ H2 d = some (exd d fs) ∧ H1 d = none ∧ W (.ref C) (some d) σ (upd (del H2 a) d (.xd fs))) (fun _ _ _ => False)) : tRz C f te W D σ H := h
theorem tyx_same {K : PySem.W.Frag} {H H' : Hp} {x : V} {t : Value} (h : TyX K H x t) (s : Same H H') : TyX K H' x t := by
  cases h with
  | base h =>
    cases h with
    | non => exact .base .non
    | bl x => exact .base (.bl x)
    | int x => exact .base (.int x)
    | str x => exact .base (.str x)
    | flt x => exact .base (.flt x)
    | lst e => exact .base (.lst (s _ _ e))
    | frz e => exact .base (.frz (s _ _ e))
    | tup e => exact .base (.tup (s _ _ e))
    | dK e => exact .base (.dK (s _ _ e))
    | dT e => exact .base (.dT (s _ _ e))
    | ins e a b c d f => exact .base (.ins (s _ _ e) a b c d f)
  | byt b => exact .byt b
  | set e => exact .set (s _ _ e)
  | kList e c => exact .kList e c
  | kTuple e c => exact .kTuple e c
  | kDict e c => exact .kDict e c
  | fTuple e => exact .fTuple (s _ _ e)
  | fDict e => exact .fDict (s _ _ e)
theorem CandAt.same {K : PySem.W.Frag} {H H' : Hp} {c : V} {o : Option (Str × Int)} (h : CandAt K H c o) (s : Same H H') : CandAt K H' c o := by
  cases h with
  | odd a b => exact .odd (tyx_same a s) b
  | len a b => exact .len (s _ _ a) b
  | node a b c => exact .node (s _ _ a) (tyx_same b s) c
  | val a b c => exact .val (s _ _ a) (tyx_same b s) c
  | mv a => exact .mv (s _ _ a)
section
variable {P : Program} {w : World} {K : PySem.W.Frag} {mg : Str → Option Value} {base : Heap}
end
end Law

namespace Law
open PySem PySem.Spec PyProof.Rows L2 U


section
variable {P : Program} {w : World} {K : PySem.W.Frag} {mg : Str → Option Value} {base : Heap}
end
end Law

namespace Law
open PySem PySem.Spec PyProof.Rows L2 U


def spSlope : Sp := fun vs H Q _ => ∃ (st : Addr) (a b : Str) (ord : List Str) (f : Str → Int), vs = [.ref st, .str a, .str b] ∧ Rd H st (.dK (kvF ord f)) ∧ a ∈ ord ∧ b ∈ ord ∧ Q (.int (slp f a b)) H
/-- the numbers over ns stand at c -/
def spNum : Sp := fun vs H Q _ => ∃ (g n e st c : Addr) (ns ord : List Str) (es : List (Addr × Str × Str)) (f h : Str → Int), vs = [.ref g, .ref c] ∧ GSt H g n e st ns ord es f ∧ H c = some (.dK (kvF ns h)) ∧ ∀ H' : Hp, Same H H' → Q (.bl true) H'
def spFit : Sp := fun vs H Q _ => ∃ (st c : Addr) (a b : Str) (ord ns : List Str) (f h : Str → Int), vs = [.ref st, .ref c, .str a, .str b] ∧ H st = some (.dK (kvF ord f)) ∧ H c = some (.dK (kvF ns h)) ∧ a ∈ ord ∧ b ∈ ord ∧ a ∈ ns ∧ b ∈ ns ∧
  ∀ H' : Hp, Same H H' → Q (.bl (fitB f h a b)) H'
def spIsLift : Sp := fun vs H Q _ => ∃ (g n e st c : Addr) (ns ord : List Str) (es : List (Addr × Str × Str)) (f h : Str → Int), vs = [.ref g, .ref st, .ref c] ∧ GSt H g n e st ns ord es f ∧ H c = some (.dK (kvF ns h)) ∧
  ∀ H' : Hp, Same H H' → Q (.bl ((es.map (·.2)).all fun e => fitB f h e.1 e.2)) H'
section
variable {P : Program} {w : World} {K : PySem.W.Frag} {mg : Str → Option Value} {base : Heap}
structure D1c (mg : Str → Option Value) : Prop where
  UP : ∃ u, mg "UP" = some u ∧ RelV (.int 1) u
  DOWN : ∃ u, mg "DOWN" = some u ∧ RelV (.int (-1)) u
theorem ok_slope {f : Addr} {fd : FuncData} (F : Fun K "slope" "slope" s_slope f fd) (B : Bt mg) (C : D1c mg) : FnG P w K mg base CX0 1 f fd ["state", "node", "neighbor"] spSlope := by
  refine fnG0 F sc_slope (fun vs H Q E h => ?_) (fun cdv A outer s H vs Q E hr h => ?_)
  · obtain ⟨st, a, b, ord, f, rfl, _⟩ := h
    rfl
  · obtain ⟨st, a, b, ord, f, rfl, hst, ha, hb, q⟩ := h
    have nd := sc_slope.nd
    have hu := hr.u1
    refine ⟨_, (pss_one (ps_ret (pe_ifExp (pt_cmpR (kEq K rfl hr.u64) (pe_op uMod (pe_op uSub (pe_dget hu (pv 0) (pv 2) (fun _ _ => rfl)) (pe_dget hu (pv 0) (pv 1) (fun _ _ => rfl))) pe_int) pe_int (nomark _)) (pe_gl rfl C.UP) (pe_gl rfl C.DOWN)))), ?_⟩
    wtm_at "rd"
    refine rd_dat hst (kvF_val hb) rfl ?_
    wtm_at "rd"
    refine rd_dat hst (kvF_val ha) rfl ?_
    wtm_at "rd"
    unfold slp at q
    refine rd_split (fun c => ?_) (fun c => ?_)
    · rw [if_pos c] at q
      exact q
    · rw [if_neg c] at q
      exact q
structure D5 (P : Program) (w : World) (K : PySem.W.Frag) (mg : Str → Option Value) (base : Heap) : Prop where
  is_integer : Cal P w K mg base CX0 1 "is_integer" (spIsInt K)
  slope : Cal P w K mg base CX0 1 "slope" spSlope
  UP : ∃ u, mg "UP" = some u ∧ RelV (.int 1) u
theorem ok_num {f : Addr} {fd : FuncData} (F : Fun K "is_number_dict" "is_number_dict" s_is_number_dict f fd) (B : Bt mg) (C : D5 P w K mg base) : FnG P w K mg base CX0 2 f fd ["graph", "candidate"] spNum := by
  refine fnG0 F sc_is_number_dict (fun vs H Q E h => ?_) (fun cdv A outer s H vs Q E hr h => ?_)
  · obtain ⟨g, n, e, st, c, ns, ord, es, f, h, rfl, _⟩ := h
    rfl
  · obtain ⟨g, n, e, st, c, ns, ord, es, f, h, rfl, gs, hc, q⟩ := h
    have nd := sc_is_number_dict.nd
    have hu := hr.u1
    refine ⟨_, (pss_cons (ps_if (PW.pt (pw_or (pt_not (pt_val (pe_callB (kIsi K rfl) (by rfl) B.isinstance bb_isinstance (pa_cons (pv 1) (pa_cons (pe_ty rfl B.dict bb_dict) pa_nil))))) (pw_or1 (pt_cmpR (kNe K rfl hr.u64) (pe_callB (kLen K rfl) (by rfl) B.len bb_len (pa_cons (pv 1) pa_nil)) (pe_callB (kLen K rfl) (by rfl) B.len bb_len (pa_cons (pe_ix (kIx K rfl) (pv 0) pe_int (fun _ _ => rfl)) pa_nil)) (nomark _))))) (pss_one (ps_ret pe_bl)) pss_nil)
  (pss_one (ps_ret (pe_callB (kAll K rfl rfl) (by rfl) B.all bb_all (pa_cons (pe_lc (own := [("node", 2)]) rfl nd (ki_tup K rfl (pe_ix (kIx K rfl) (pv 0) pe_int (fun _ _ => rfl))) (blkOk_by (own := [("node", 2)]) (N := nN_is_number_dict) (sc := defScope s_is_number_dict) (by decide +kernel)) (fun _ _ _ _ _ => (pg_name (i := 2) nd rfl (by first | exact Or.inl rfl | exact Or.inr rfl))) (fun _ _ _ _ _ => pts_nil) (fun _ _ _ _ _ => (pe_and (pe_cmp (pc_din hu (pv 2) (pv 1))) (pe_one (pe_c C.is_integer hr (by decide) rfl (pa_cons (pe_dget hu (pv 1) (pv 2) (fun _ _ => rfl)) pa_nil)))))) pa_nil))))), ?_⟩
    wtm_at "rd"
    refine rd_isi (ty_dK hc) (t := .dct) (by decide +kernel) ?_
    rw [show isT .dct .dct = true from by decide +kernel]
    wtm_at "rd"
    refine rd_lenD hc ?_
    wtm_at "rd"
    refine rd_ixT (SqT.of gs.gr.top) (v := .ref n) rfl ?_
    wtm_at "rd"
    refine rd_lenT (SqT.of gs.gr.nodes) ?_
    rw [List.length_map, List.length_map]
    wtm_at "rd"
    refine rd_nno rfl ?_
    wtm_at "rd"
    refine rd_ixT (SqT.of gs.gr.top) (v := .ref n) rfl ?_
    refine rd_forT (SqT.of gs.gr.nodes) ?_
    intro D fD
    refine lcT (K := K) (xs := ns.map V.str) (fun i H' => Same H H' ∧ H' D = some (.lst ((List.replicate i true).map V.bl))) ⟨Same.new fD, upd_same⟩ ?_ ?_ ?_
    · rintro i H' hi ⟨s, _⟩
      exact SqT.of (s _ _ gs.gr.nodes)
    · rintro i y H' hy ⟨s, hD⟩
      obtain ⟨hi, rfl⟩ := map_at hy
      have hm := List.getElem_mem hi
      wtm_at "rd"
      refine rd_din1 (.inl (s _ _ hc)) (k := .inr ns[i]) rfl ?_
      rw [kvF_val hm]
      refine rd_bl ?_
      refine rd_T ?_
      wtm_at "rd"
      refine rd_dat (.inl (s _ _ hc)) (kvF_val hm) rfl ?_
      wtm_at "rd"
      refine ⟨_, .int, rfl, ty_int, ?_⟩
      refine rd_acc hD (by rw [List.length_map, List.length_replicate]; have := gs.l2; omega) ?_
      refine ⟨same_put s fD, ?_⟩
      rw [upd_same, List.replicate_succ', List.map_append]
      rfl
    · rintro H' ⟨s, hD⟩
      wtm_at "rd"
      refine rd_allL (SqL.of hD) ?_
      have : (List.replicate (ns.map V.str).length true).all id = true := by
        rw [List.all_eq_true]
        intro b hb
        exact List.eq_of_mem_replicate hb
      rw [this]
      exact q H' s
theorem ok_fit {f : Addr} {fd : FuncData} (F : Fun K "fits_edge" "fits_edge" s_fits_edge f fd) (B : Bt mg) (C : D5 P w K mg base) : FnG P w K mg base CX0 2 f fd ["state", "lift", "one", "other"] spFit := by
  refine fnG0 F sc_fits_edge (fun vs H Q E h => ?_) (fun cdv A outer s H vs Q E hr h => ?_)
  · obtain ⟨st, c, a, b, ord, ns, f, h, rfl, _⟩ := h
    rfl
  · obtain ⟨st, c, a, b, ord, ns, f, h, rfl, hst, hc, ao, bo, an, bn, q⟩ := h
    have nd := sc_fits_edge.nd
    have hu := hr.u1
    refine ⟨_, (pss_cons (ps_asg (pe_ifExp (pt_cmpR (kEq K rfl hr.u64) (pe_c C.slope hr (by decide) rfl (pa_cons (pv 0) (pa_cons (pv 2) (pa_cons (pv 3) pa_nil)))) (pe_gl rfl C.UP) (nomark _)) (pe_tup (pa_cons (pv 3) (pa_cons (pv 2) pa_nil))) (pe_tup (pa_cons (pv 2) (pa_cons (pv 3) pa_nil)))) (kg_tup (n := 2) K rfl rfl (pgs_cons (pg_name (i := 4) nd rfl (by first | exact Or.inl rfl | exact Or.inr rfl)) (pgs_cons (pg_name (i := 5) nd rfl (by first | exact Or.inl rfl | exact Or.inr rfl)) pgs_nil))))
  (pss_one (ps_ret (pe_chain uLe uLe pe_int (pe_op uSub (pe_dget hu (pv 1) (pv 5) (fun _ _ => rfl)) (pe_dget hu (pv 1) (pv 4) (fun _ _ => rfl))) pe_int)))), ?_⟩
    wtm_at "rd"
    refine ⟨st, a, b, ord, f, rfl, .inl hst, ao, bo, ?_⟩
    wtm_at "rd"
    unfold fitB at q
    refine rd_split (fun k => ?_) (fun k => ?_)
    · rw [if_pos k] at q
      wtm_at "rd"
      intro t ft
      refine rd_unp (SqT.of upd_same) rfl ?_
      have hc1 := at_upd (o := .tup [.str b, .str a]) (ne_of_none hc ft) hc
      have s1 := Same.new (o := .tup [.str b, .str a]) ft
      wtm_at "rd"
      refine rd_dat (.inl hc1) (kvF_val an) rfl ?_
      wtm_at "rd"
      refine rd_dat (.inl hc1) (kvF_val bn) rfl ?_
      wtm_at "rd"
      have z := q _ s1
      refine rd_split (fun k2 => ?_) (fun k2 => ?_)
      · rw [decide_eq_true k2, Bool.true_and] at z
        wtm_at "rd"
        exact z
      · rw [decide_eq_false k2, Bool.false_and] at z
        exact z
    · rw [if_neg k] at q
      wtm_at "rd"
      intro t ft
      refine rd_unp (SqT.of upd_same) rfl ?_
      have hc1 := at_upd (o := .tup [.str a, .str b]) (ne_of_none hc ft) hc
      have s1 := Same.new (o := .tup [.str a, .str b]) ft
      wtm_at "rd"
      refine rd_dat (.inl hc1) (kvF_val bn) rfl ?_
      wtm_at "rd"
      refine rd_dat (.inl hc1) (kvF_val an) rfl ?_
      wtm_at "rd"
      have z := q _ s1
      refine rd_split (fun k2 => ?_) (fun k2 => ?_)
      · rw [decide_eq_true k2, Bool.true_and] at z
        wtm_at "rd"
        exact z
      · rw [decide_eq_false k2, Bool.false_and] at z
        exact z
structure D6 (P : Program) (w : World) (K : PySem.W.Frag) (mg : Str → Option Value) (base : Heap) : Prop where
  is_number_dict : Cal P w K mg base CX0 2 "is_number_dict" spNum
  fits_edge : Cal P w K mg base CX0 2 "fits_edge" spFit
theorem ok_is_lift {f : Addr} {fd : FuncData} (F : Fun K "is_lift" "is_lift" s_is_lift f fd) (B : Bt mg) (C : D6 P w K mg base) : FnG P w K mg base CX0 3 f fd ["graph", "state", "candidate"] spIsLift := by
  refine fnG0 F sc_is_lift (fun vs H Q E h => ?_) (fun cdv A outer s H vs Q E hr h => ?_)
  · obtain ⟨g, n, e, st, c, ns, ord, es, f, h, rfl, _⟩ := h
    rfl
  · obtain ⟨g, n, e, st, c, ns, ord, es, f, h, rfl, gs, hc, q⟩ := h
    have nd := sc_is_lift.nd
    have hu := hr.u1
    refine ⟨_, (pss_cons (ps_if (pt_not (pt_val (pe_c C.is_number_dict hr (by decide) rfl (pa_cons (pv 0) (pa_cons (pv 2) pa_nil))))) (pss_one (ps_ret pe_bl)) pss_nil)
  (pss_one (ps_ret (pe_callB (kAll K rfl rfl) (by rfl) B.all bb_all (pa_cons (pe_lc (own := [("one", 3), ("other", 4)]) rfl nd (ki_tup K rfl (pe_ix (kIx K rfl) (pv 0) pe_int (fun _ _ => rfl))) (blkOk_by (own := [("one", 3), ("other", 4)]) (N := nN_is_lift) (sc := defScope s_is_lift) (by decide +kernel)) (fun _ _ _ _ _ => (kg_tup (n := 2) K rfl rfl (pgs_cons (pg_name (i := 3) nd rfl (by first | exact Or.inl rfl | exact Or.inr rfl)) (pgs_cons (pg_name (i := 4) nd rfl (by first | exact Or.inl rfl | exact Or.inr rfl)) pgs_nil)))) (fun _ _ _ _ _ => pts_nil) (fun _ _ _ _ _ => (pe_c C.fits_edge hr (by decide) rfl (pa_cons (pv 1) (pa_cons (pv 2) (pa_cons (pv 3) (pa_cons (pv 4) pa_nil))))))) pa_nil))))), ?_⟩
    wtm_at "rd"
    refine ⟨g, n, e, st, c, ns, ord, es, f, h, rfl, gs, hc, fun H1 s1 => ?_⟩
    wtm_at "rd"
    refine rd_ixT (SqT.of (s1 _ _ gs.gr.top)) (v := .ref e) rfl ?_
    refine rd_forT (SqT.of (s1 _ _ gs.gr.edges)) ?_
    intro D fD
    have fD0 := new_of_same s1 fD
    refine lcT (K := K) (xs := es.map fun x => V.ref x.1) (fun i H' => Same H H' ∧ H' D = some (.lst ((((es.map (·.2)).take i).map fun e => fitB f h e.1 e.2).map V.bl))) ⟨same_add s1 fD, upd_same⟩ ?_ ?_ ?_
    · rintro i H' hi ⟨s, _⟩
      exact SqT.of (s _ _ gs.gr.edges)
    · rintro i y H' hy ⟨s, hD⟩
      obtain ⟨hi, rfl⟩ := map_at hy
      have hm := List.getElem_mem hi
      have i2 : i < (es.map (·.2)).length := by rw [List.length_map]; exact hi
      have tk := take_snoc i2
      rw [List.getElem_map] at tk
      obtain ⟨m1, m2⟩ := gs.inE _ hm
      refine rd_unp (SqT.of (s _ _ (gs.gr.pairs _ hm))) rfl ?_
      wtm_at "rd"
      refine ⟨st, c, _, _, ord, ns, f, h, rfl, s _ _ gs.st, s _ _ hc, gs.inO _ m1, gs.inO _ m2, m1, m2, fun H2 s2 => ?_⟩
      refine rd_acc (s2 _ _ hD) (by rw [List.length_map, List.length_map, List.length_take]; have := gs.l3; omega) ?_
      refine ⟨same_put (s.trans s2) fD0, ?_⟩
      rw [upd_same, tk, List.map_append, List.map_append]
      rfl
    · rintro H' ⟨s, hD⟩
      rw [List.length_map, List.take_of_length_le (by rw [List.length_map]; exact Nat.le_refl _)] at hD
      wtm_at "rd"
      refine rd_allL (SqL.of hD) ?_
      rw [List.all_map]
      exact q H' s
end
end Law

/-! paths found level by level: the plain law -/
namespace U
open PySem PySem.Spec PyProof.Rows L2
/-- nodes found, each with its path, in the order in which they are found -/
abbrev keysF (kp : List (Str × List Str)) : List Str := kp.map (·.1)
def addF (ok : Str → Str → Bool) (c : Str × List Str) (kp : List (Str × List Str)) (o : Str) : List (Str × List Str) := if o ∉ keysF kp ∧ ok c.1 o = true then kp ++ [(o, c.2 ++ [o])] else kp
def addsF (ok : Str → Str → Bool) (c : Str × List Str) (os : List Str) (kp : List (Str × List Str)) : List (Str × List Str) := os.foldl (addF ok c) kp
def stF (adj : Str → List Str) (ok : Str → Str → Bool) (root : Str) : Nat → List (Str × List Str)
  | 0 => [(root, [root])]
  | i + 1 => match (stF adj ok root i)[i]? with
    | none => stF adj ok root i
    | some c => addsF ok c (adj c.1) (stF adj ok root i)
def pathsF (adj : Str → List Str) (ok : Str → Str → Bool) (root : Str) : List (Str × List Str) := stF adj ok root 1000
inductive Reach (adj : Str → List Str) (ok : Str → Str → Bool) (root : Str) : Str → Prop
  | refl : Reach adj ok root root
  | step {a b : Str} : Reach adj ok root a → b ∈ adj a → ok a b = true → Reach adj ok root b
theorem Reach.trans {adj : Str → List Str} {ok : Str → Str → Bool} {a b c : Str} (h : Reach adj ok a b) (k : Reach adj ok b c) : Reach adj ok a c := by
  induction k with
  | refl => exact h
  | step _ m o ih => exact .step ih m o
section
variable {adj : Str → List Str} {ok : Str → Str → Bool} {root : Str}
theorem addF_cases (c : Str × List Str) (kp : List (Str × List Str)) (o : Str) : (addF ok c kp o = kp ∧ (o ∈ keysF kp ∨ ok c.1 o = false)) ∨ (addF ok c kp o = kp ++ [(o, c.2 ++ [o])] ∧ o ∉ keysF kp ∧ ok c.1 o = true) := by
  unfold addF
  by_cases h : o ∉ keysF kp ∧ ok c.1 o = true
  · rw [if_pos h]
    exact .inr ⟨rfl, h⟩
  · rw [if_neg h]
    refine .inl ⟨rfl, ?_⟩
    by_cases m : o ∈ keysF kp
    · exact .inl m
    · refine .inr ?_
      cases e : ok c.1 o with
      | false => rfl
      | true => exact (h ⟨m, e⟩).elim
theorem addsF_snoc {c : Str × List Str} {os : List Str} {o : Str} {kp : List (Str × List Str)} : addsF ok c (os ++ [o]) kp = addF ok c (addsF ok c os kp) o := by
  unfold addsF
  rw [List.foldl_append]
  rfl
theorem addsF_pre {c : Str × List Str} : ∀ {os : List Str} {kp : List (Str × List Str)}, ∃ r, addsF ok c os kp = kp ++ r
  | [], kp => ⟨[], (List.append_nil kp).symm⟩
  | o :: os, kp => by
    obtain ⟨r, hr⟩ := addsF_pre (c := c) (os := os) (kp := addF ok c kp o)
    have e : addsF ok c (o :: os) kp = addsF ok c os (addF ok c kp o) := rfl
    rw [e, hr]
    rcases addF_cases c kp o with ⟨h, _⟩ | ⟨h, _⟩
    · rw [h]
      exact ⟨r, rfl⟩
    · rw [h, List.append_assoc]
      exact ⟨_, rfl⟩
/-- what is added: each a neighbour that may be gone to -/
theorem addsF_mem {c : Str × List Str} : ∀ {os : List Str} {kp : List (Str × List Str)} {x : Str × List Str}, x ∈ addsF ok c os kp → x ∈ kp ∨ (x.1 ∈ os ∧ ok c.1 x.1 = true ∧ x.2 = c.2 ++ [x.1])
  | [], kp, x, h => .inl h
  | o :: os, kp, x, h => by
    have e : addsF ok c (o :: os) kp = addsF ok c os (addF ok c kp o) := rfl
    rw [e] at h
    rcases addsF_mem h with h | ⟨h1, h2, h3⟩
    · rcases addF_cases c kp o with ⟨e, _⟩ | ⟨e, _, k⟩
      · rw [e] at h
        exact .inl h
      · rw [e] at h
        rcases List.mem_append.mp h with h | h
        · exact .inl h
        · rw [List.mem_singleton] at h
          subst h
          exact .inr ⟨List.mem_cons_self, k, rfl⟩
    · exact .inr ⟨List.mem_cons_of_mem _ h1, h2, h3⟩
theorem addsF_all {c : Str × List Str} : ∀ {os : List Str} {kp : List (Str × List Str)} {o : Str}, o ∈ os → ok c.1 o = true → o ∈ keysF (addsF ok c os kp)
  | o' :: os, kp, o, h, k => by
    have e : addsF ok c (o' :: os) kp = addsF ok c os (addF ok c kp o') := rfl
    rw [e]
    rcases List.mem_cons.mp h with rfl | h
    · obtain ⟨r, hr⟩ := addsF_pre (ok := ok) (c := c) (os := os) (kp := addF ok c kp o)
      rw [hr, keysF, List.map_append]
      refine List.mem_append_left _ ?_
      rcases addF_cases c kp o with ⟨e, m⟩ | ⟨e, _⟩
      · rw [e]
        rcases m with m | m
        · exact m
        · rw [k] at m
          cases m
      · rw [e, List.map_append]
        exact List.mem_append_right _ List.mem_cons_self
    · exact addsF_all h k
theorem addF_nodup {c : Str × List Str} {kp : List (Str × List Str)} {o : Str} (h : (keysF kp).Nodup) : (keysF (addF ok c kp o)).Nodup := by
  rcases addF_cases c kp o with ⟨e, _⟩ | ⟨e, m, _⟩
  · rw [e]
    exact h
  · rw [e, keysF, List.map_append, List.nodup_append]
    refine ⟨h, by simp, fun a ha b hb z => ?_⟩
    have : b = o := by simpa using hb
    rw [z, this] at ha
    exact m ha
theorem addsF_nodup {c : Str × List Str} : ∀ {os : List Str} {kp : List (Str × List Str)}, (keysF kp).Nodup → (keysF (addsF ok c os kp)).Nodup
  | [], _, h => h
  | o :: os, kp, h => addsF_nodup (os := os) (addF_nodup h)
theorem stF_at {i : Nat} {c : Str × List Str} (h : (stF adj ok root i)[i]? = some c) : stF adj ok root (i + 1) = addsF ok c (adj c.1) (stF adj ok root i) := by
  rw [stF, h]
theorem stF_end {i : Nat} (h : (stF adj ok root i)[i]? = none) : stF adj ok root (i + 1) = stF adj ok root i := by
  rw [stF, h]
theorem stF_pre (i : Nat) : ∃ r, stF adj ok root (i + 1) = stF adj ok root i ++ r := by
  cases h : (stF adj ok root i)[i]? with
  | none => rw [stF_end h]; exact ⟨[], (List.append_nil _).symm⟩
  | some c => rw [stF_at h]; exact addsF_pre
theorem stF_pre' (i : Nat) : ∀ k, ∃ r, stF adj ok root (i + k) = stF adj ok root i ++ r
  | 0 => ⟨[], (List.append_nil _).symm⟩
  | k + 1 => by
    obtain ⟨r, hr⟩ := stF_pre' i k
    obtain ⟨r2, h2⟩ := stF_pre (adj := adj) (ok := ok) (root := root) (i + k)
    exact ⟨r ++ r2, by rw [← Nat.add_assoc, h2, hr, List.append_assoc]⟩
theorem stF_stop {i : Nat} (h : (stF adj ok root i).length ≤ i) : ∀ k, stF adj ok root (i + k) = stF adj ok root i
  | 0 => rfl
  | k + 1 => by
    have e := stF_stop h k
    rw [← Nat.add_assoc, stF_end (by rw [e]; exact List.getElem?_eq_none (by omega)), e]
theorem stF_nodup : ∀ i, (keysF (stF adj ok root i)).Nodup
  | 0 => by simp [stF]
  | i + 1 => by
    cases h : (stF adj ok root i)[i]? with
    | none => rw [stF_end h]; exact stF_nodup i
    | some c => rw [stF_at h]; exact addsF_nodup (stF_nodup i)
theorem stF_root (i : Nat) : ∃ r, stF adj ok root i = (root, [root]) :: r := by
  obtain ⟨r, h⟩ := stF_pre' (adj := adj) (ok := ok) (root := root) 0 i
  rw [Nat.zero_add] at h
  exact ⟨r, h⟩
/-- a path: from the first to the last, each step to a neighbour that may be gone to -/
inductive PathTo (adj : Str → List Str) (ok : Str → Str → Bool) (root : Str) : Str → List Str → Prop
  | one : PathTo adj ok root root [root]
  | snoc {a b : Str} {p : List Str} : PathTo adj ok root a p → b ∈ adj a → ok a b = true → PathTo adj ok root b (p ++ [b])
theorem PathTo.reach {a : Str} {p : List Str} (h : PathTo adj ok root a p) : Reach adj ok root a := by
  induction h with
  | one => exact .refl
  | snoc _ m o ih => exact .step ih m o
theorem stF_path : ∀ i x, x ∈ stF adj ok root i → PathTo adj ok root x.1 x.2
  | 0, x, h => by
    rw [stF, List.mem_singleton] at h
    subst h
    exact .one
  | i + 1, x, h => by
    cases e : (stF adj ok root i)[i]? with
    | none => rw [stF_end e] at h; exact stF_path i x h
    | some c =>
      rw [stF_at e] at h
      rcases addsF_mem h with h | ⟨h1, h2, h3⟩
      · exact stF_path i x h
      · have := stF_path i c (List.mem_of_getElem? e)
        rw [h3]
        exact .snoc this h1 h2
theorem stF_reach {i : Nat} {x : Str} (h : x ∈ keysF (stF adj ok root i)) : Reach adj ok root x := by
  obtain ⟨y, hy, rfl⟩ := List.mem_map.mp h
  exact (stF_path i y hy).reach
/-- those whose turn has been have their neighbours found -/
theorem stF_closed : ∀ (i j : Nat) (c : Str × List Str), j < i → (stF adj ok root i)[j]? = some c → ∀ b ∈ adj c.1, ok c.1 b = true → b ∈ keysF (stF adj ok root i)
  | i + 1, j, c, hj, hc, b, hb, hk => by
    cases e : (stF adj ok root i)[i]? with
    | none =>
      rw [stF_end e] at hc ⊢
      have : j < (stF adj ok root i).length := (List.getElem?_eq_some_iff.mp hc).1
      have := List.getElem?_eq_none_iff.mp e
      exact stF_closed i j c (by omega) hc b hb hk
    | some d =>
      have li : i < (stF adj ok root i).length := (List.getElem?_eq_some_iff.mp e).1
      obtain ⟨r, hr⟩ := stF_pre (adj := adj) (ok := ok) (root := root) i
      have hc2 : (stF adj ok root i)[j]? = some c := by
        rw [hr, List.getElem?_append_left (by omega)] at hc
        exact hc
      by_cases q : j < i
      · have := stF_closed i j c q hc2 b hb hk
        rw [hr, keysF, List.map_append]
        exact List.mem_append_left _ this
      · have : j = i := by omega
        subst this
        rw [hc2] at e
        cases e
        rw [stF_at hc2]
        exact addsF_all hb hk
theorem stF_all {i : Nat} (h : (stF adj ok root i).length ≤ i) {x : Str} (r : Reach adj ok root x) : x ∈ keysF (stF adj ok root i) := by
  induction r with
  | refl =>
    obtain ⟨r, e⟩ := stF_root (adj := adj) (ok := ok) (root := root) i
    rw [e]
    exact List.mem_cons_self
  | step _ m o ih =>
    obtain ⟨y, hy, rfl⟩ := List.mem_map.mp ih
    obtain ⟨j, hj, e⟩ := List.mem_iff_getElem.mp hy
    exact stF_closed i j y (by omega) (by rw [List.getElem?_eq_getElem hj, e]) _ m o
/-- nodes of ns alone -/
theorem reach_mem {ns : List Str} (cl : ∀ x ∈ ns, ∀ y ∈ adj x, y ∈ ns) (h0 : root ∈ ns) {x : Str} (r : Reach adj ok root x) : x ∈ ns := by
  induction r with
  | refl => exact h0
  | step _ m _ ih => exact cl _ ih _ m
theorem nodup_len {α : Type} [DecidableEq α] : ∀ {xs ys : List α}, xs.Nodup → (∀ x ∈ xs, x ∈ ys) → xs.length ≤ ys.length
  | [], _, _, _ => Nat.zero_le _
  | x :: xs, ys, nd, h => by
    rw [List.nodup_cons] at nd
    have hx := h x List.mem_cons_self
    have := nodup_len (xs := xs) (ys := ys.erase x) nd.2 fun y hy => by
      refine (List.mem_erase_of_ne ?_).mpr (h y (List.mem_cons_of_mem _ hy))
      rintro rfl
      exact nd.1 hy
    rw [List.length_erase_of_mem hx] at this
    have : 0 < ys.length := List.length_pos_of_mem hx
    rw [List.length_cons]
    omega
theorem stF_len {ns : List Str} (cl : ∀ x ∈ ns, ∀ y ∈ adj x, y ∈ ns) (h0 : root ∈ ns) (i : Nat) : (stF adj ok root i).length ≤ ns.length := by
  have := nodup_len (stF_nodup (adj := adj) (ok := ok) (root := root) i) (ys := ns) fun x hx => reach_mem cl h0 (stF_reach hx)
  rw [List.length_map] at this
  exact this
theorem addsF_len {c : Str × List Str} : ∀ {os : List Str} {kp : List (Str × List Str)}, (addsF ok c os kp).length ≤ kp.length + os.length
  | [], kp => Nat.le_refl _
  | o :: os, kp => by
    have e : addsF ok c (o :: os) kp = addsF ok c os (addF ok c kp o) := rfl
    have := addsF_len (c := c) (os := os) (kp := addF ok c kp o)
    rw [e, List.length_cons]
    rcases addF_cases c kp o with ⟨z, _⟩ | ⟨z, _⟩ <;> rw [z] at this
    · rw [z]
      omega
    · rw [z]
      rw [List.length_append, List.length_singleton] at this
      omega
theorem stF_plen : ∀ i x, x ∈ stF adj ok root i → x.2.length ≤ i + 1
  | 0, x, h => by
    rw [stF, List.mem_singleton] at h
    subst h
    exact Nat.le_refl _
  | i + 1, x, h => by
    cases e : (stF adj ok root i)[i]? with
    | none =>
      rw [stF_end e] at h
      have := stF_plen i x h
      omega
    | some c =>
      rw [stF_at e] at h
      rcases addsF_mem h with h | ⟨h1, h2, h3⟩
      · have := stF_plen i x h
        omega
      · have := stF_plen i c (List.mem_of_getElem? e)
        rw [h3, List.length_append, List.length_singleton]
        omega
/-- where the loop ends, all is found -/
theorem stF_done {i : Nat} (h : (stF adj ok root i).length ≤ i) (hi : i ≤ 1000) : stF adj ok root i = pathsF adj ok root := by
  have e := stF_stop h (1000 - i)
  rw [Nat.add_sub_cancel' hi] at e
  exact e.symm
end

/-! ### neighbours in order -/
def sortS (xs : List Str) : List Str := xs.mergeSort fun a b => !decide (sLt b a)
theorem sortS_perm (xs : List Str) : (sortS xs).Perm xs := List.mergeSort_perm xs _
theorem nlt_trans {a b c : Str} (h : ¬ sLt b a) (k : ¬ sLt c b) : ¬ sLt c a := by
  intro z
  rcases sLt_tri a b with t | t | t
  · exact k (sLt_trans z t)
  · subst t
    exact k z
  · exact h t
theorem sortS_pw (xs : List Str) : (sortS xs).Pairwise fun a b => ¬ sLt b a := by
  have := List.pairwise_mergeSort (le := fun a b : Str => !decide (sLt b a)) (fun a b c h k => by
    simp only [Bool.not_eq_true', decide_eq_false_iff_not] at h k ⊢
    exact nlt_trans h k) (fun a b => by
    rw [Bool.or_eq_true]
    simp only [Bool.not_eq_true', decide_eq_false_iff_not]
    by_cases z : sLt b a
    · exact .inr (sLt_asymm z)
    · exact .inl z) xs
  exact this.imp fun h => by
    simp only [Bool.not_eq_true', decide_eq_false_iff_not] at h
    exact h
theorem sortS_asc {xs : List Str} (nd : xs.Nodup) : Asc (sortS xs) := asc_of_sorted (sortS_pw xs) ((sortS_perm xs).nodup_iff.mpr nd)
theorem sort_uniq {xs ys : List Str} (p : ys.Perm xs) (s : ys.Pairwise fun a b => ¬ sLt b a) (nd : xs.Nodup) : ys = sortS xs :=
  asc_unique (asc_of_sorted s (p.nodup_iff.mpr nd)) (sortS_asc nd) fun z => by rw [p.mem_iff, (sortS_perm xs).mem_iff]
theorem nbrF_nodup {ns : List Str} {es : List (Str × Str)} (ok : GrOk ns es) (x : Str) : (nbrF es x).Nodup := by
  unfold nbrF
  rw [List.nodup_iff_pairwise_ne, List.pairwise_flatMap]
  have m : ∀ {e : Str × Str} {z : Str}, z ∈ (if e.1 = x then [e.2] else []) ++ (if e.2 = x then [e.1] else []) → (e.1 = x ∧ z = e.2) ∨ (e.2 = x ∧ z = e.1) := by
    intro e z h
    rcases List.mem_append.mp h with h | h
    · split at h
      · rename_i c
        exact .inl ⟨c, by simpa using h⟩
      · cases h
    · split at h
      · rename_i c
        exact .inr ⟨c, by simpa using h⟩
      · cases h
  refine ⟨fun e he => ?_, ?_⟩
  · by_cases c : e.1 = x
    · have c2 : ¬ e.2 = x := fun z => by
        have := ok.lt e he
        rw [c, z] at this
        exact sLt_irrefl _ this
      rw [if_pos c, if_neg c2]
      simp
    · rw [if_neg c]
      split <;> simp
  · have nd := List.nodup_iff_pairwise_ne.mp (ascE_nodup ok.asc)
    refine List.Pairwise.imp_of_mem (fun {e d} he hd ne => ?_) nd
    intro z hz y hy zy
    subst zy
    have le := ok.lt e he
    have ld := ok.lt d hd
    rcases m hz with ⟨a1, a2⟩ | ⟨a1, a2⟩ <;> rcases m hy with ⟨b1, b2⟩ | ⟨b1, b2⟩
    · exact ne (Prod.ext (a1.trans b1.symm) (a2.symm.trans b2))
    · rw [a1, ← a2] at le
      rw [b1, ← b2] at ld
      exact sLt_asymm le ld
    · rw [a1, ← a2] at le
      rw [b1, ← b2] at ld
      exact sLt_asymm le ld
    · exact ne (Prod.ext (a2.symm.trans b2) (a1.trans b1.symm))
def nbS (es : List (Str × Str)) (x : Str) : List Str := sortS (nbrF es x)
theorem nbS_mem {es : List (Str × Str)} {x z : Str} : z ∈ nbS es x ↔ (x, z) ∈ es ∨ (z, x) ∈ es := by
  unfold nbS
  rw [(sortS_perm _).mem_iff]
  exact mem_nbrF
theorem nbS_of {ns : List Str} {es : List (Str × Str)} {x : Str} {ys : List Str} (ok : GrOk ns es) (p : ys.Perm (nbrF es x)) (s : ys.Pairwise fun a b => ¬ sLt b a) : ys = nbS es x := sort_uniq p s (nbrF_nodup ok x)
theorem nbS_in {ns : List Str} {es : List (Str × Str)} (ok : GrOk ns es) {x y : Str} (h : y ∈ nbS es x) : y ∈ ns := by
  rcases nbS_mem.mp h with h | h
  · exact (ok.mem _ h).2
  · exact (ok.mem _ h).1
end U

/-! paths found level by level: paths_from, sloped_paths -/
namespace Law
open PySem PySem.Spec PyProof.Rows L2 U


theorem rd_disp {σ : L2.St} {H : Hp} {Q : VK} {tk tv : TE} (h : ∀ p, H p = none → tk σ (upd H p (.dK [])) fun x H1 => tv σ H1 fun y H2 => H2 p = some (.dK []) ∧ ∃ kvs : List (Key × V), [(x, y)] = kvs.map (fun kv => (kV kv.1, kv.2)) ∧ kvs.length ≤ 15 ∧ Q (.ref p) (upd H2 p (.dK (mergeK [] kvs)))) : tDisp [(tk, tv)] σ H Q := h
theorem rd_dispE {H2 : Hp} {p : Addr} {x y : V} {k : Key} {R : List (Key × V) → Prop} (hx : x = kV k) (h0 : H2 p = some (.dK [])) (q : R [(k, y)]) : H2 p = some (.dK []) ∧ ∃ kvs : List (Key × V), [(x, y)] = kvs.map (fun kv => (kV kv.1, kv.2)) ∧ kvs.length ≤ 15 ∧ R kvs :=
  ⟨h0, [(k, y)], by rw [hx]; rfl, (by show 1 ≤ 15; decide), q⟩
theorem rd_augI {n : Nat} {i : Int} {g : Int → Int → Int} {te : TE} {D : Ends} {σ : L2.St} {H : Hp} (hv : σ[n]? = some (some (.int i))) (h : te σ H fun y H1 => ipI g (.int i) y H1 fun z H2 => D.nx (σ.set n (some z)) H2) : tAug n te (ipI g) D σ H := ⟨_, hv, h⟩
theorem rd_ipI {g : Int → Int → Int} {i j : Int} {H : Hp} {Q : VK} (h : Q (.int (g i j)) H) : ipI g (.int i) (.int j) H Q := ⟨i, j, rfl, rfl, h⟩
theorem AdjAt.at {H : Hp} {d : Addr} {ns : List Str} {es : List (Str × Str)} {A : Str → Addr} (h : AdjAt H d ns es A) (ok : GrOk ns es) {n : Str} (hn : n ∈ ns) : H (A n) = some (.lst ((nbS es n).map V.str)) := by
  obtain ⟨ys, h1, h2, h3⟩ := h.li n hn
  rw [← nbS_of ok h2 h3]
  exact h1
/-- paths found stand at d -/
structure PathsAt (H : Hp) (d : Addr) (kp : List (Str × List Str)) (A : Str → Addr) : Prop where
  di : H d = some (.dK (kvG (keysF kp) fun n => .ref (A n)))
  li : ∀ c ∈ kp, H (A c.1) = some (.lst (c.2.map V.str))
theorem PathsAt.same {H H' : Hp} {d : Addr} {kp : List (Str × List Str)} {A : Str → Addr} (h : PathsAt H d kp A) (s : Same H H') : PathsAt H' d kp A := ⟨s _ _ h.di, fun c hc => s _ _ (h.li c hc)⟩
theorem kvG_congr {ns : List Str} {F G : Str → V} (h : ∀ n ∈ ns, F n = G n) : kvG ns F = kvG ns G := List.map_congr_left fun n hn => by rw [h n hn]
/-- one more path -/
theorem PathsAt.put {H : Hp} {d t : Addr} {kp : List (Str × List Str)} {A : Str → Addr} {o : Str} {p : List Str} (h : PathsAt H d kp A) (no : o ∉ keysF kp) (ht : H t = some (.lst (p.map V.str))) :
    PathsAt (upd H d (.dK (putK (kvG (keysF kp) fun n => .ref (A n)) (.inr o) (.ref t)))) d (kp ++ [(o, p)]) (updV A o t) := by
  refine ⟨?_, fun c hc => ?_⟩
  · rw [upd_same, kvG_new no, show keysF (kp ++ [(o, p)]) = keysF kp ++ [o] from List.map_append]
    congr 2
    refine kvG_congr fun m _ => ?_
    unfold updV
    by_cases z : m = o
    · rw [if_pos z, if_pos z]
    · rw [if_neg z, if_neg z]
  · unfold updV
    rcases List.mem_append.mp hc with hc | hc
    · rw [if_neg (fun z => no (by rw [← z]; exact List.mem_map_of_mem hc))]
      exact at_upd (ne_of (h.li c hc) h.di (by intro z; cases z)) (h.li c hc)
    · rw [List.mem_singleton] at hc
      subst hc
      rw [if_pos rfl]
      exact at_upd (ne_of ht h.di (by intro z; cases z)) ht
theorem PathsAt.off {H : Hp} {d q : Addr} {kp : List (Str × List Str)} {A : Str → Addr} {xs ys : List V} (h : PathsAt H d kp A) (hq : H q = some (.lst xs)) (off : ∀ c ∈ kp, A c.1 ≠ q) : PathsAt (upd H q (.lst ys)) d kp A :=
  ⟨at_upd (ne_of h.di hq (by intro z; cases z)) h.di, fun c hc => at_upd (off c hc) (h.li c hc)⟩
def slOk (f : Str → Int) (dir : Int) (a b : Str) : Bool := decide (slp f a b = dir)
abbrev slF (es : List (Str × Str)) (f : Str → Int) (dir : Int) (x : Str) : List (Str × List Str) := pathsF (nbS es) (slOk f dir) x
def spSloped : Sp := fun vs H Q _ => ∃ (g n e st : Addr) (x : Str) (dir : Int) (ns ord : List Str) (es : List (Addr × Str × Str)) (f : Str → Int), vs = [.ref g, .ref st, .str x, .int dir] ∧ GSt H g n e st ns ord es f ∧ x ∈ ns ∧
  ∀ (d : Addr) (A : Str → Addr) (H' : Hp), Same H H' → H d = none → (∀ c ∈ slF (es.map (·.2)) f dir x, H (A c.1) = none) → PathsAt H' d (slF (es.map (·.2)) f dir x) A → Q (.ref d) H'
section
variable {P : Program} {w : World} {K : PySem.W.Frag} {mg : Str → Option Value} {base : Heap}
structure B1c (P : Program) (w : World) (K : PySem.W.Frag) (mg : Str → Option Value) (base : Heap) : Prop where
  adjacency : Cal P w K mg base CX0 1 "adjacency" spAdj
  slope : Cal P w K mg base CX0 1 "slope" spSlope
theorem ok_sloped {f : Addr} {fd : FuncData} (F : Fun K "sloped_paths" "sloped_paths" s_sloped_paths f fd) (B : Bt mg) (C : B1c P w K mg base) : FnG P w K mg base CX0 2 f fd ["graph", "state", "node", "direction"] spSloped := by
  refine fnG0 F sc_sloped_paths (fun vs H Q E h => ?_) (fun cdv A outer s H vs Q E hr h => ?_)
  · obtain ⟨g, n, e, st, x, dir, ns, ord, es, f, rfl, _⟩ := h
    rfl
  · obtain ⟨g, n, e, st, x, dir, ns, ord, es, f, rfl, gs, hx, q⟩ := h
    have nd := sc_sloped_paths.nd
    have hu := hr.u1
    refine ⟨_, (pss_cons (ps_set (i := 4) nd rfl (by first | exact Or.inl rfl | exact Or.inr rfl) (pe_c C.adjacency hr (by decide) rfl (pa_cons (pv 0) pa_nil)))
  (pss_cons (ps_set (i := 5) nd rfl (by first | exact Or.inl rfl | exact Or.inr rfl) (pe_disp (pps_cons (pv 2) (pe_lst (pa_cons (pv 2) pa_nil)) pps_nil) (by rfl) (by rfl) (fun z => by cases z) (by decide)))
  (pss_cons (ps_set (i := 6) nd rfl (by first | exact Or.inl rfl | exact Or.inr rfl) (pe_lst (pa_cons (pv 2) pa_nil)))
  (pss_cons (ps_set (i := 7) nd rfl (by first | exact Or.inl rfl | exact Or.inr rfl) pe_int)
  (pss_cons (ps_while PassesOwn.never (pt_cmpR uLt (pv 7) (pe_callB (kLen K rfl) (by rfl) B.len bb_len (pa_cons (pv 6) pa_nil)) (nomark _)) (pss_cons (ps_set (i := 8) nd rfl (by first | exact Or.inl rfl | exact Or.inr rfl) (pe_ix (kIx K rfl) (pv 6) (pv 7) (fun _ _ => rfl)))
  (pss_cons (ps_aug (i := 7) nd rfl (Or.inl rfl) pe_int ip_add)
  (pss_one (ps_for PassesOwn.never rfl (ki_list K rfl (pe_dget hu (pv 4) (pv 8) (fun _ _ => rfl))) (pg_name (i := 9) nd rfl (by first | exact Or.inl rfl | exact Or.inr rfl)) (pss_one (ps_if (PW.pt (pw_and (pt_cmp (pc_dnotin hu (pv 9) (pv 5))) (pw_and1 (pt_cmpR (kEq K rfl hr.u64) (pe_c C.slope hr (by decide) rfl (pa_cons (pv 1) (pa_cons (pv 8) (pa_cons (pv 9) pa_nil)))) (pv 3) (nomark _))))) (pss_cons (ps_dput hu (pv 5) (pv 9) (pe_op (kAdd K rfl) (pe_dget hu (pv 5) (pv 8) (fun _ _ => rfl)) (pe_lst (pa_cons (pv 9) pa_nil))) rfl)
  (pss_one (ps_expr (pe_bm PySem.F.plainAttrs_list PySem.F.slot_list_append PySem.F.type_list_append mt_append (pv 6) (pa_cons (pv 9) pa_nil))))) pss_nil)))))))
  (pss_one (ps_ret (pv 5)))))))), ?_⟩
    wtm_at "rd"
    refine ⟨g, n, e, ns, es, rfl, gs.grs, fun ad Ad H1 s1 _ had => ?_⟩
    have gs1 := gs.same s1
    wtm_at "rd"
    refine rd_disp fun D fD => ?_
    wtm_at "rd"
    intro t ft
    have ntD := new_ne ft
    refine rd_dispE (x := .str x) (y := .ref t) (k := .inr x) rfl (at_upd (Ne.symm ntD) upd_same) ?_
    rw [show mergeK [] [((Sum.inr x : Key), V.ref t)] = [(Sum.inr x, V.ref t)] from rfl]
    have s2 : Same H1 (upd (upd (upd H1 D (.dK [])) t (.lst [.str x])) D (.dK [(.inr x, .ref t)])) := same_put (same_add (Same.new fD) ft) fD
    have ft1 := new_of_same (Same.new (o := .dK []) fD) ft
    have pa : PathsAt (upd (upd (upd H1 D (.dK [])) t (.lst [.str x])) D (.dK [(.inr x, .ref t)])) D (stF (nbS (es.map (·.2))) (slOk f dir) x 0) fun _ => t := ⟨upd_same, fun c hc => by
      rw [stF, List.mem_singleton] at hc
      subst hc
      exact at_upd ntD upd_same⟩
    generalize upd (upd (upd H1 D (.dK [])) t (.lst [.str x])) D (.dK [(.inr x, .ref t)]) = H2 at s2 pa
    wtm_at "rd"
    intro qa fq
    have fq1 := new_of_same s2 fq
    have s3 := same_add (o := .lst [.str x]) s2 fq
    have nDq : D ≠ qa := ne_of_none pa.di fq
    have pa3 := pa.same (Same.new (o := .lst [.str x]) fq)
    have ntq : t ≠ qa := ne_of_none (pa.li (x, [x]) List.mem_cons_self) fq
    have hq3 := @upd_same H2 qa (.lst [.str x])
    generalize upd H2 qa (.lst [.str x]) = H3 at s3 pa3 hq3
    wtm_at "rd"
    have cl : ∀ a ∈ ns, ∀ b ∈ nbS (es.map (·.2)) a, b ∈ ns := fun a _ b hb => nbS_in gs.ok hb
    refine ⟨fun m σ H' => ∃ (i : Nat) (A : Str → Addr) (u8 u9 : Option V), m = ns.length + 1 - i ∧ i ≤ ns.length ∧ σ = [some (.ref g), some (.ref st), some (.str x), some (.int dir), some (.ref ad), some (.ref D), some (.ref qa), some (.int i), u8, u9] ∧ Same H1 H' ∧
      PathsAt H' D (stF (nbS (es.map (·.2))) (slOk f dir) x i) A ∧ (∀ c ∈ stF (nbS (es.map (·.2))) (slOk f dir) x i, H1 (A c.1) = none ∧ A c.1 ≠ qa) ∧ H' qa = some (.lst ((keysF (stF (nbS (es.map (·.2))) (slOk f dir) x i)).map V.str)),
      ⟨_, 0, fun _ => t, _, _, rfl, Nat.zero_le _, rfl, s3, pa3, fun c _ => ⟨ft1, ntq⟩, hq3⟩, ?_⟩
    rintro m σ H' ⟨i, A, u8, u9, rfl, il, rfl, s, pa, fr, hq⟩
    have sl := stF_len (ok := slOk f dir) cl hx i
    have hin : ∀ c ∈ stF (nbS (es.map (·.2))) (slOk f dir) x i, c.1 ∈ ns := fun c hc => reach_mem cl hx (stF_reach (List.mem_map_of_mem hc))
    wtm_at "rd"
    refine rd_lenL (SqL.of hq) ?_
    rw [List.length_map, List.length_map]
    wtm_at "rd"
    refine rd_split (fun c0 => ?_) (fun c0 => ?_)
    case refine_2 =>
      rw [stF_done (by omega) (by have := gs.l2; omega)] at pa fr
      wtm_at "rd"
      exact q D A H' (s1.trans s) (new_of_same s1 fD) (fun c hc => new_of_same s1 (fr c hc).1) pa
    have hi : i < (stF (nbS (es.map (·.2))) (slOk f dir) x i).length := by omega
    refine ⟨fun σ' H' => ∃ (A : Str → Addr) (u8 u9 : Option V), σ' = [some (.ref g), some (.ref st), some (.str x), some (.int dir), some (.ref ad), some (.ref D), some (.ref qa), some (.int (i + 1 : Nat)), u8, u9] ∧ Same H1 H' ∧
      PathsAt H' D (stF (nbS (es.map (·.2))) (slOk f dir) x (i + 1)) A ∧ (∀ c ∈ stF (nbS (es.map (·.2))) (slOk f dir) x (i + 1), H1 (A c.1) = none ∧ A c.1 ≠ qa) ∧ H' qa = some (.lst ((keysF (stF (nbS (es.map (·.2))) (slOk f dir) x (i + 1))).map V.str)),
      fun σ' H' ⟨A, u8, u9, h1, h2, h3, h4, h5⟩ => ⟨ns.length + 1 - (i + 1), by omega, i + 1, A, u8, u9, rfl, by omega, h1, h2, h3, h4, h5⟩, ?_⟩
    have e1 : (stF (nbS (es.map (·.2))) (slOk f dir) x i)[i]? = some (stF (nbS (es.map (·.2))) (slOk f dir) x i)[i] := List.getElem?_eq_getElem hi
    have cm := List.getElem_mem hi
    rw [stF_at e1]
    wtm_at "rd"
    refine rd_ixL (SqL.of hq) (atI_nat (v := .str (stF (nbS (es.map (·.2))) (slOk f dir) x i)[i].1) (by rw [List.getElem?_map, List.getElem?_map, e1]; rfl)) ?_
    have cn := hin _ cm
    have cp := pa.li _ cm
    have cq := fr _ cm
    have cpl := stF_plen _ _ cm
    generalize (stF (nbS (es.map (·.2))) (slOk f dir) x i)[i] = c at *
    generalize hkp : stF (nbS (es.map (·.2))) (slOk f dir) x i = kp at *
    have lkp : (keysF kp).Nodup := by rw [← hkp]; exact stF_nodup i
    wtm_at "rd"
    refine rd_augI rfl ?_
    wtm_at "rd"
    refine rd_ipI ?_
    have ei : (i : Int) + 1 = ((i + 1 : Nat) : Int) := by omega
    rw [ei]
    wtm_at "rd"
    refine rd_dat (.inl (s _ _ had.di)) (kvG_val cn) rfl ?_
    have hos := had.at gs.ok cn
    have osn : ∀ o ∈ nbS (es.map (·.2)) c.1, o ∈ ns := fun o ho => cl _ cn o ho
    have osl : (nbS (es.map (·.2)) c.1).length ≤ 2000 := by
      unfold nbS
      rw [(sortS_perm _).length_eq]
      have := nbrF_len (x := c.1) (es := es.map (·.2))
      rw [List.length_map] at this
      have := gs.l3
      omega
    generalize nbS (es.map (·.2)) c.1 = os at *
    refine rd_forL (SqL.of (s _ _ hos)) ?_
    refine turnsL (K := K) (xs := os.map V.str) (fun j σ H' => ∃ (A : Str → Addr) (u9 : Option V), σ = [some (.ref g), some (.ref st), some (.str x), some (.int dir), some (.ref ad), some (.ref D), some (.ref qa), some (.int (i + 1 : Nat)), some (.str c.1), u9] ∧ Same H1 H' ∧
      PathsAt H' D (addsF (slOk f dir) c (os.take j) kp) A ∧ (∀ c2 ∈ addsF (slOk f dir) c (os.take j) kp, H1 (A c2.1) = none ∧ A c2.1 ≠ qa) ∧ H' qa = some (.lst ((keysF (addsF (slOk f dir) c (os.take j) kp)).map V.str))) ⟨A, u9, rfl, s, pa, fr, hq⟩ ?_ ?_ ?_
    · rintro j σ H' hj ⟨A, u9, rfl, s, _⟩
      exact SqL.of (s _ _ hos)
    · rintro j y σ H' hy ⟨A, u9, rfl, s, pa, fr, hq⟩
      obtain ⟨hj, rfl⟩ := map_at hy
      have hom := osn _ (List.getElem_mem hj)
      have tk : addsF (slOk f dir) c (os.take (j + 1)) kp = addF (slOk f dir) c (addsF (slOk f dir) c (os.take j) kp) os[j] := by rw [take_snoc hj, addsF_snoc]
      have len : (addsF (slOk f dir) c (os.take j) kp).length ≤ kp.length + 2000 := by
        have := addsF_len (ok := slOk f dir) (c := c) (os := os.take j) (kp := kp)
        rw [List.length_take] at this
        omega
      have cin : c ∈ addsF (slOk f dir) c (os.take j) kp := by
        obtain ⟨r, hr⟩ := addsF_pre (ok := slOk f dir) (c := c) (os := os.take j) (kp := kp)
        rw [hr]
        exact List.mem_append_left _ cm
      generalize addsF (slOk f dir) c (os.take j) kp = k1 at *
      generalize os[j] = o at *
      wtm_at "rd"
      refine rd_din1 (.inl pa.di) (k := .inr o) rfl ?_
      have skip : (o ∈ keysF k1 ∨ slOk f dir c.1 o = false) → addsF (slOk f dir) c (os.take (j + 1)) kp = k1 := fun h => by
        rw [tk]
        unfold addF
        rw [if_neg]
        rintro ⟨z1, z2⟩
        rcases h with h | h
        · exact z1 h
        · rw [h] at z2
          cases z2
      by_cases mo : o ∈ keysF k1
      · rw [kvG_val mo]
        wtm_at "rd"
        rw [skip (.inl mo)]
        exact ⟨A, _, rfl, s, pa, fr, hq⟩
      · rw [kvG_none mo]
        refine rd_bl ?_
        refine rd_T ?_
        wtm_at "rd"
        refine ⟨st, c.1, o, ord, f, rfl, .inl (s _ _ gs1.st), gs.inO _ cn, gs.inO _ hom, ?_⟩
        wtm_at "rd"
        refine rd_split (fun c1 => ?_) (fun c1 => ?_)
        case refine_2 =>
          wtm_at "rd"
          rw [skip (.inr (decide_eq_false c1))]
          exact ⟨A, _, rfl, s, pa, fr, hq⟩
        have tk2 : addsF (slOk f dir) c (os.take (j + 1)) kp = k1 ++ [(o, c.2 ++ [o])] := by
          rw [tk]
          unfold addF
          exact if_pos ⟨mo, decide_eq_true c1⟩
        rw [tk2]
        wtm_at "rd"
        refine rd_dat (.inl pa.di) (kvG_val (List.mem_map_of_mem cin)) rfl ?_
        wtm_at "rd"
        intro t1 ft1
        have pl1 := pa.li _ cin
        refine rd_catL (at_upd (ne_of_none pl1 ft1) pl1) upd_same (by rw [List.length_map]; simp only [List.length_singleton]; have := gs.l2; omega) ?_
        intro t2 ft2
        have sT := same_add (o := .lst (c.2.map V.str ++ [.str o])) (same_add (o := .lst [.str o]) s ft1) ft2
        have paT := (pa.same (Same.new (o := .lst [.str o]) ft1)).same (Same.new (o := .lst (c.2.map V.str ++ [.str o])) ft2)
        have hqT := at_upd (o := .lst (c.2.map V.str ++ [.str o])) (ne_of_none (at_upd (o := .lst [.str o]) (ne_of_none hq ft1) hq) ft2) (at_upd (o := .lst [.str o]) (ne_of_none hq ft1) hq)
        have nt2 : t2 ≠ qa := Ne.symm (ne_of_none (at_upd (o := .lst [.str o]) (ne_of_none hq ft1) hq) ft2)
        have ft20 := new_of_same (same_add (o := .lst [.str o]) s ft1) ft2
        have ht2 : (upd (upd H' t1 (.lst [.str o])) t2 (.lst (c.2.map V.str ++ [.str o]))) t2 = some (.lst ((c.2 ++ [o]).map V.str)) := by
          rw [upd_same, List.map_append]
          rfl
        generalize upd (upd H' t1 (.lst [.str o])) t2 (.lst (c.2.map V.str ++ [.str o])) = HT at sT paT hqT ht2
        wtm_at "rd"
        refine rd_dset paT.di (k := .inr o) rfl (by rw [List.length_map, List.length_map]; have := gs.l2; omega) ?_
        have pa2 := paT.put mo ht2
        have sU := same_put (o := .dK (putK (kvG (keysF k1) fun n => .ref (A n)) (.inr o) (.ref t2))) sT fD
        have hqU := at_upd (o := .dK (putK (kvG (keysF k1) fun n => .ref (A n)) (.inr o) (.ref t2))) (Ne.symm nDq) hqT
        generalize upd HT D (.dK (putK (kvG (keysF k1) fun n => .ref (A n)) (.inr o) (.ref t2))) = HU at pa2 sU hqU
        wtm_at "rd"
        refine rd_tyL hqU ?_
        wtm_at "rd"
        refine rd_append hqU (by rw [List.length_map, List.length_map]; have := gs.l2; omega) ?_
        have off : ∀ c2 ∈ k1 ++ [(o, c.2 ++ [o])], H1 (updV A o t2 c2.1) = none ∧ updV A o t2 c2.1 ≠ qa := fun c2 hc2 => by
          unfold updV
          rcases List.mem_append.mp hc2 with h | h
          · rw [if_neg (fun z => mo (by rw [← z]; exact List.mem_map_of_mem h))]
            exact fr c2 h
          · rw [List.mem_singleton] at h
            subst h
            rw [if_pos rfl]
            exact ⟨ft20, nt2⟩
        refine ⟨updV A o t2, _, rfl, same_put sU fq1, pa2.off hqU (fun c2 hc2 => (off c2 hc2).2), off, ?_⟩
        rw [upd_same, show keysF (k1 ++ [(o, c.2 ++ [o])]) = keysF k1 ++ [o] from List.map_append, List.map_append]
        rfl
    · rintro σ H' ⟨A, u9, rfl, s, pa, fr, hq⟩
      rw [List.length_map, List.take_length] at pa fr hq
      wtm_at "rd"
      exact ⟨A, _, _, rfl, s, pa, fr, hq⟩
end
end Law

/-! d.update(e); lists of texts compared; the last but one -/
namespace U
open PySem PySem.Spec PyProof.Rows L2
/-! lists of texts compared -/
theorem canLay_strs : ∀ {xs : List Str}, (∀ x ∈ xs, PyData.strOk x = true) → PyData.canLayAll0 (xs.map PyData.str) = true
  | [], _ => by simp [PyData.canLayAll0]
  | x :: xs, h => by
    rw [List.map_cons, PyData.canLayAll0, PyData.canLay0, h x List.mem_cons_self, canLay_strs fun y hy => h y (List.mem_cons_of_mem _ hy)]
    rfl
theorem depth_strs : ∀ {xs : List Str}, PyData.depthAll (xs.map PyData.str) = 0
  | [] => by simp [PyData.depthAll]
  | x :: xs => by
    rw [List.map_cons, PyData.depthAll, PyData.depth, depth_strs]
    rfl
theorem shaped_strs {xs : List Str} (h : ∀ x ∈ xs, PyData.strOk x = true) : SeqAt.shaped (.list (xs.map PyData.str)) = true := by
  unfold SeqAt.shaped
  rw [PyData.canLay0, canLay_strs h, PyData.depth, depth_strs]
  rfl
section
variable {K : PySem.W.Frag} {H : Hp} {Q : VK} {p q : Addr} {x y : V} {d : PyData} {xs ys : List Str}
end
end U

/-! components, root paths, basis cycles: the plain law -/
namespace U
open PySem PySem.Spec PyProof.Rows L2
abbrev ptF (es : List (Str × Str)) (x : Str) : List (Str × List Str) := pathsF (nbS es) (fun _ _ => true) x
abbrev Con (es : List (Str × Str)) (x y : Str) : Prop := Reach (nbS es) (fun _ _ => true) x y
section
variable {ns : List Str} {es : List (Str × Str)} {x y : Str}
theorem con_symm (h : Con es x y) : Con es y x := by
  induction h with
  | refl => exact .refl
  | step _ m _ ih =>
    refine Reach.trans (.step .refl ?_ rfl) ih
    exact nbS_mem.mpr ((nbS_mem.mp m).symm)
theorem pt_mem (ok : GrOk ns es) (l : ns.length ≤ 1000) (hx : x ∈ ns) : y ∈ keysF (ptF es x) ↔ Con es x y :=
  ⟨fun h => stF_reach h, fun h => stF_all (by have := stF_len (ok := fun _ _ => true) (adj := nbS es) (ns := ns) (fun a _ b hb => nbS_in ok hb) hx 1000; omega) h⟩
theorem pt_nodup : (keysF (ptF es x)).Nodup := stF_nodup 1000
theorem pt_in (ok : GrOk ns es) (hx : x ∈ ns) (h : y ∈ keysF (ptF es x)) : y ∈ ns := reach_mem (fun a _ b hb => nbS_in ok hb) hx (stF_reach h)
def comp (es : List (Str × Str)) (x : Str) : List Str := sortS (keysF (ptF es x))
theorem comp_mem (ok : GrOk ns es) (l : ns.length ≤ 1000) (hx : x ∈ ns) : y ∈ comp es x ↔ Con es x y := by
  unfold comp
  rw [(sortS_perm _).mem_iff, pt_mem ok l hx]
def compStep (es : List (Str × Str)) (cs : List (List Str)) (n : Str) : List (List Str) := if n ∈ cs.flatten then cs else cs ++ [comp es n]
/-- components found from the nodes ds, all in ns -/
structure Cmps (ns : List Str) (es : List (Str × Str)) (ds : List Str) (cs : List (List Str)) : Prop where
  of : ∀ c ∈ cs, ∃ r ∈ ns, c = comp es r
  nd : cs.flatten.Nodup
  all : ∀ x ∈ ds, x ∈ cs.flatten
theorem Cmps.nil : Cmps ns es [] [] := ⟨(fun c hc => nomatch hc), List.nodup_nil, (fun x hx => nomatch hx)⟩
theorem Cmps.in_ {ds : List Str} {cs : List (List Str)} (h : Cmps ns es ds cs) (ok : GrOk ns es) : ∀ x ∈ cs.flatten, x ∈ ns := fun x hx => by
  obtain ⟨c, hc, hx⟩ := List.mem_flatten.mp hx
  obtain ⟨r, hr, rfl⟩ := h.of c hc
  exact pt_in ok hr ((sortS_perm _).mem_iff.mp hx)
theorem Cmps.step {ds : List Str} {cs : List (List Str)} {n : Str} (h : Cmps ns es ds cs) (ok : GrOk ns es) (l : ns.length ≤ 1000) (hn : n ∈ ns) : Cmps ns es (ds ++ [n]) (compStep es cs n) := by
  unfold compStep
  by_cases m : n ∈ cs.flatten
  · rw [if_pos m]
    refine ⟨h.of, h.nd, fun x hx => ?_⟩
    rcases List.mem_append.mp hx with hx | hx
    · exact h.all x hx
    · rw [List.mem_singleton] at hx
      rw [hx]
      exact m
  · rw [if_neg m]
    refine ⟨fun c hc => ?_, ?_, fun x hx => ?_⟩
    · rcases List.mem_append.mp hc with hc | hc
      · exact h.of c hc
      · rw [List.mem_singleton] at hc
        exact ⟨n, hn, hc⟩
    · rw [List.flatten_append, List.nodup_append]
      refine ⟨h.nd, ?_, fun a ha b hb z => ?_⟩
      · rw [List.flatten_singleton]
        exact (sortS_perm _).nodup_iff.mpr pt_nodup
      · rw [List.flatten_singleton] at hb
        subst z
        obtain ⟨c, hc, ha⟩ := List.mem_flatten.mp ha
        obtain ⟨r, hr, rfl⟩ := h.of c hc
        have h1 := (comp_mem ok l hr).mp ha
        have h2 := (comp_mem ok l hn).mp hb
        exact m (List.mem_flatten.mpr ⟨_, hc, (comp_mem ok l hr).mpr (h1.trans (con_symm h2))⟩)
    · rw [List.flatten_append, List.flatten_singleton]
      rcases List.mem_append.mp hx with hx | hx
      · exact List.mem_append_left _ (h.all x hx)
      · rw [List.mem_singleton] at hx
        subst hx
        exact List.mem_append_right _ ((comp_mem ok l hn).mpr .refl)
theorem Cmps.len {ds : List Str} {cs : List (List Str)} (h : Cmps ns es ds cs) (ok : GrOk ns es) : cs.flatten.length ≤ ns.length := nodup_len h.nd (h.in_ ok)
/-! root paths -/
end
end U

/-! paths_from, components, root_paths, basis_cycles -/
namespace Law
open PySem PySem.Spec PyProof.Rows L2 U


section
variable {X : Cx} {o e : Expr} {es : List Expr} {to : TE} {t : TA} {apos cpos : Pos}
end
/-- lists of names stand, each at its own place -/
structure ListsAt (H : Hp) (l : Addr) (cs : List (Addr × List Str)) : Prop where
  li : H l = some (.lst (cs.map fun c => V.ref c.1))
  at_ : ∀ c ∈ cs, H c.1 = some (.lst (c.2.map V.str))
theorem ListsAt.same {H H' : Hp} {l : Addr} {cs : List (Addr × List Str)} (h : ListsAt H l cs) (s : Same H H') : ListsAt H' l cs := ⟨s _ _ h.li, fun c hc => s _ _ (h.at_ c hc)⟩
section
variable {P : Program} {w : World} {K : PySem.W.Frag} {mg : Str → Option Value} {base : Heap}
end
end Law

/-! sums of slopes along walks: the plain law -/
namespace U
open PySem PySem.Spec PyProof.Rows L2
def Adj (es : List (Str × Str)) (a b : Str) : Prop := (a, b) ∈ es ∨ (b, a) ∈ es
theorem Adj.symm {es : List (Str × Str)} {a b : Str} (h : Adj es a b) : Adj es b a := Or.symm h
def Wk (es : List (Str × Str)) : List Str → Prop
  | a :: b :: r => Adj es a b ∧ Wk es (b :: r)
  | _ => True
theorem Wk.join {es : List (Str × Str)} : ∀ {p r : List Str} {x : Str}, p.getLast? = some x → Wk es p → Wk es (x :: r) → Wk es (p ++ r)
  | [], _, _, h, _, _ => nomatch h
  | [a], r, x, h, _, w => by
    have : a = x := by simpa using h
    subst this
    exact w
  | a :: b :: q, r, x, h, w1, w2 => by
    have h' : (b :: q).getLast? = some x := by rw [List.getLast?_cons_cons] at h; exact h
    exact ⟨w1.1, Wk.join (p := b :: q) h' w1.2 w2⟩
theorem Wk.snoc {es : List (Str × Str)} {p : List Str} {x b : Str} (h : p.getLast? = some x) (w : Wk es p) (a : Adj es x b) : Wk es (p ++ [b]) := w.join h ⟨a, trivial⟩
theorem Wk.left {es : List (Str × Str)} : ∀ {p r : List Str}, Wk es (p ++ r) → Wk es p
  | [], _, _ => trivial
  | [_], _, _ => trivial
  | a :: b :: q, r, w => ⟨w.1, Wk.left (p := b :: q) (r := r) w.2⟩
theorem Wk.tail {es : List (Str × Str)} {a : Str} {p : List Str} (w : Wk es (a :: p)) : Wk es p := by
  cases p with
  | nil => trivial
  | cons b r => exact w.2
theorem Wk.right {es : List (Str × Str)} : ∀ {p r : List Str}, Wk es (p ++ r) → Wk es r
  | [], _, w => w
  | a :: q, r, w => Wk.right (p := q) (r := r) (Wk.tail w)
section
variable {ns : List Str} {es : List (Str × Str)} {f : Str → Int}
theorem slp_neg (ok : EsOk ns es f) {a b : Str} (h : Adj es a b) : slp f b a = - slp f a b := by
  have ha : a ∈ ns ∧ b ∈ ns ∧ f a ≠ f b := by
    rcases h with h | h
    · exact ⟨(ok.mem _ h).1, (ok.mem _ h).2, ok.pro _ h⟩
    · exact ⟨(ok.mem _ h).2, (ok.mem _ h).1, fun z => ok.pro _ h z.symm⟩
  have t1 := ok.tri a ha.1
  have t2 := ok.tri b ha.2.1
  have ne := ha.2.2
  unfold slp
  split <;> split <;> omega
end
/-! ### the paths found are walks -/
theorem PathTo.wk {es : List (Str × Str)} {ok : Str → Str → Bool} {root x : Str} {p : List Str} (h : PathTo (nbS es) ok root x p) : Wk es p ∧ p.head? = some root ∧ p.getLast? = some x := by
  induction h with
  | one => exact ⟨trivial, rfl, rfl⟩
  | @snoc a b p _ m o ih =>
    obtain ⟨h1, h2, h3⟩ := ih
    refine ⟨h1.snoc h3 (nbS_mem.mp m), ?_, by simp⟩
    cases p with
    | nil => cases h2
    | cons _ _ => exact h2
/-! ### basis cycles -/
def pth (kp : List (Str × List Str)) (x : Str) : List Str := (kp.lookup x).getD []
theorem lookup_some : ∀ {kp : List (Str × List Str)} {x : Str}, x ∈ keysF kp → ∃ p, kp.lookup x = some p ∧ (x, p) ∈ kp
  | y :: r, x, h => by
    rw [List.lookup_cons]
    by_cases e : x = y.1
    · subst e
      rw [show (y.1 == y.1) = true from beq_self_eq_true _]
      exact ⟨y.2, rfl, List.mem_cons_self⟩
    · rw [show (x == y.1) = false from beq_eq_false_iff_ne.mpr e]
      have : x ∈ keysF r := by
        rcases List.mem_cons.mp h with z | z
        · exact absurd z e
        · exact z
      obtain ⟨p, h1, h2⟩ := lookup_some this
      exact ⟨p, h1, List.mem_cons_of_mem _ h2⟩
section
variable {ns : List Str} {es : List (Str × Str)}
end
end U

/-! small readings that many laws want -/
namespace U
open PySem PySem.Spec PyProof.Rows L2
section
variable {K : PySem.W.Frag} {H H' : Hp} {Q : VK} {p q a : Addr} {σ : L2.St} {te td : TE} {tr : TA} {xs : List V}
end
end U

/-! root_paths, basis_cycles, path_sum, windings -/
namespace Law
open PySem PySem.Spec PyProof.Rows L2 U


section
variable {P : Program} {w : World} {K : PySem.W.Frag} {mg : Str → Option Value} {base : Heap}
end
end Law

/-! slopes as the laws count them; walks drawn -/
namespace Law
open PySem PySem.Spec PyProof.Rows L2 U


section
variable {P : Program} {w : World} {K : PySem.W.Frag} {mg : Str → Option Value} {base : Heap}
end
end Law

/-! components as a law finds them: the plain law -/
namespace U
open PySem PySem.Spec PyProof.Rows L2
end U

/-! rising cycles, feasible lifts, progress: the plain law -/
namespace U
open PySem PySem.Spec PyProof.Rows L2
def slOk (f : Str → Int) (dir : Int) (a b : Str) : Bool := decide (slp f a b = dir)
abbrev Rr (es : List (Str × Str)) (f : Str → Int) (dir : Int) (x y : Str) : Prop := Reach (nbS es) (slOk f dir) x y
/-- x is on a rising (falling) cycle -/
def CycD (es : List (Str × Str)) (f : Str → Int) (dir : Int) (x : Str) : Prop := ∃ y, Adj es y x ∧ slp f y x = dir ∧ Rr es f dir x y
abbrev Cyc (es : List (Str × Str)) (f : Str → Int) (x : Str) : Prop := CycD es f 1 x
section
variable {ns : List Str} {es : List (Str × Str)} {f : Str → Int} {dir : Int}
theorem rr_step {a b : Str} (h : Adj es a b) (k : slp f a b = dir) : Rr es f dir a b := .step .refl (nbS_mem.mpr h) (decide_eq_true k)
theorem rr_snoc {a b c : Str} (r : Rr es f dir a b) (h : Adj es b c) (k : slp f b c = dir) : Rr es f dir a c := .step r (nbS_mem.mpr h) (decide_eq_true k)
theorem rr_first {x y : Str} (r : Rr es f dir x y) : y = x ∨ ∃ z, Adj es x z ∧ slp f x z = dir ∧ Rr es f dir z y := by
  induction r with
  | refl => exact .inl rfl
  | @step a b _ m o ih =>
    have o' := of_decide_eq_true o
    have m' := nbS_mem.mp m
    rcases ih with rfl | ⟨z, h1, h2, h3⟩
    · exact .inr ⟨b, m', o', .refl⟩
    · exact .inr ⟨z, h1, h2, .step h3 m o⟩
theorem rr_last {x y : Str} (r : Rr es f dir x y) : y = x ∨ ∃ z, Adj es z y ∧ slp f z y = dir ∧ Rr es f dir x z := by
  cases r with
  | refl => exact .inl rfl
  | step r m o => exact .inr ⟨_, nbS_mem.mp m, of_decide_eq_true o, r⟩
/-- what lies on the way of a cycle is on a cycle -/
theorem cyc_on {x w y : Str} (r1 : Rr es f dir x w) (r2 : Rr es f dir w y) (h : Adj es y x) (k : slp f y x = dir) : CycD es f dir w := by
  rcases rr_last r1 with e | ⟨z, z1, z2, z3⟩
  · rw [e] at r2 ⊢
    exact ⟨y, h, k, r2⟩
  · exact ⟨z, z1, z2, (rr_snoc r2 h k).trans z3⟩
theorem adj_in (ok : EsOk ns es f) {a b : Str} (h : Adj es a b) : a ∈ ns ∧ b ∈ ns ∧ f a ≠ f b ∧ a ≠ b := by
  have m : a ∈ ns ∧ b ∈ ns ∧ f a ≠ f b := by
    rcases h with h | h
    · exact ⟨(ok.mem _ h).1, (ok.mem _ h).2, ok.pro _ h⟩
    · exact ⟨(ok.mem _ h).2, (ok.mem _ h).1, fun z => ok.pro _ h z.symm⟩
  exact ⟨m.1, m.2.1, m.2.2, fun z => m.2.2 (by rw [z])⟩
/-- a node on a cycle has no move -/
theorem cyc_still (ok : EsOk ns es f) {pn : List Str} {m : Str × Int} (l : Legal ns es f pn m) : ¬ Cyc es f m.1 := by
  rintro ⟨y, h, k, r⟩
  have ay := adj_in ok h
  rcases rr_first r with e | ⟨z, h1, h2, _⟩
  · exact ay.2.2.2 e
  have az := adj_in ok h1
  have ty := ok.tri y ay.1
  have tx := ok.tri _ ay.2.1
  have tz := ok.tri z az.2.1
  have n1 := l.nbr y (.symm h)
  have n2 := l.nbr z h1
  have n3 := l.own
  have tv := l.val
  have e1 : (f m.1 - f y) % 3 = 1 := by
    unfold slp at k
    split at k
    · assumption
    · cases k
  have e2 : (f z - f m.1) % 3 = 1 := by
    unfold slp at h2
    split at h2
    · assumption
    · cases h2
  have d1 := ay.2.2.1
  have d2 := az.2.2.1
  omega
theorem slp_off {n : Str} {v : Int} {a b : Str} (ha : a ≠ n) (hb : b ≠ n) : slp (updf f n v) a b = slp f a b := by
  unfold slp updf
  rw [if_neg ha, if_neg hb]
/-- cycles stay -/
theorem cyc_move (ok : EsOk ns es f) {pn : List Str} {m : Str × Int} (l : Legal ns es f pn m) {x : Str} (c : Cyc es f x) : Cyc es (updf f m.1 m.2) x := by
  obtain ⟨y, h, k, r⟩ := c
  have st := cyc_still ok l
  have off : ∀ w, Rr es f 1 x w → Rr es f 1 w y → w ≠ m.1 := fun w r1 r2 z => st (by rw [← z]; exact cyc_on r1 r2 h k)
  have walk : ∀ w, Rr es f 1 x w → Rr es f 1 w y → Rr es (updf f m.1 m.2) 1 x w := by
    intro w r1
    induction r1 with
    | refl => intro _; exact .refl
    | @step a b r1 mm o ih =>
      intro r2
      have o' := of_decide_eq_true o
      have m' := nbS_mem.mp mm
      have r2' : Rr es f 1 a y := (rr_step m' o').trans r2
      refine rr_snoc (ih r2') m' ?_
      rw [slp_off (off a r1 r2') (off b (.step r1 mm o) r2)]
      exact o'
  refine ⟨y, h, ?_, walk y r .refl⟩
  rw [slp_off (off y r .refl) (off x .refl r)]
  exact k
theorem legal_back (ok : EsOk ns es f) {pn : List Str} {m : Str × Int} (l : Legal ns es f pn m) : Legal ns es (updf f m.1 m.2) pn (m.1, f m.1) := by
  have own : f m.1 ≠ updf f m.1 m.2 m.1 := by
    unfold updf
    rw [if_pos rfl]
    exact fun z => l.own z.symm
  refine ⟨l.mem, l.pin, ok.tri _ l.mem, own, fun z hz => ?_⟩
  have a := adj_in ok (show Adj es m.1 z from hz)
  show f m.1 ≠ updf f m.1 m.2 z
  unfold updf
  rw [if_neg (Ne.symm a.2.2.2)]
  exact a.2.2.1
theorem updf_undo {n : Str} {v : Int} : updf (updf f n v) n (f n) = f := by
  funext x
  unfold updf
  by_cases e : x = n
  · rw [if_pos e, e]
  · rw [if_neg e, if_neg e]
theorem cyc_iff (ok : EsOk ns es f) {pn : List Str} {m : Str × Int} (l : Legal ns es f pn m) {x : Str} : Cyc es (updf f m.1 m.2) x ↔ Cyc es f x := by
  refine ⟨fun c => ?_, cyc_move ok l⟩
  have ok' := (move_keeps (f0 := f) (h := fun _ => 0) ok l fun e _ => by omega).1
  have := cyc_move ok' (legal_back ok l) c
  rw [updf_undo] at this
  exact this
/-! ### feasible lifts -/
structure Feas (ns : List Str) (es : List (Str × Str)) (f h : Str → Int) (pn : List Str) : Prop where
  fit : Fits es f h
  pin : ∀ x ∈ pn, h x = 0
  cyc : ∀ x, Cyc es f x → h x = 0
theorem fit_pm {a b : Str} : fitB f h a b = true ↔ slp f a b - 2 * (h a - h b) = 1 ∨ slp f a b - 2 * (h a - h b) = -1 := by
  rw [fit_iff]
  rcases slp_pm f a b with e | e
  · rw [if_pos e, e]
    omega
  · rw [if_neg (by rw [e]; decide), e]
    omega
/-- a move, and one less to go -/
theorem feas_move (ok : EsOk ns es f) {pn : List Str} {h : Str → Int} {m : Str × Int} (fe : Feas ns es f h pn) (l : Legal ns es f pn m) : Feas ns es (updf f m.1 m.2) (updf h m.1 (h m.1 - dlt (f m.1 - m.2))) pn := by
  have mk := (move_keeps (f0 := f) (h := fun _ => 0) ok l fun e _ => by omega).2
  have ne : ∀ x, Cyc es f x ∨ x ∈ pn → x ≠ m.1 := fun x hx z => by
    rcases hx with c | c
    · rw [z] at c
      exact cyc_still ok l c
    · rw [z] at c
      exact l.pin c
  refine ⟨fun e he => ?_, fun x hx => ?_, fun x hx => ?_⟩
  · have a := fit_pm.mp (fe.fit e he)
    have b := mk e he
    rw [fit_pm]
    have u1 : ∀ x, updf h m.1 (h m.1 - dlt (f m.1 - m.2)) x = h x - updf (fun _ => 0) m.1 (0 + dlt (f m.1 - m.2)) x := fun x => by
      unfold updf
      by_cases z : x = m.1
      · rw [if_pos z, if_pos z, z]
        omega
      · rw [if_neg z, if_neg z]
        show h x = h x - 0
        omega
    rw [u1, u1]
    omega
  · unfold updf
    rw [if_neg (ne x (.inr hx))]
    exact fe.pin x hx
  · have c := (cyc_iff ok l).mp hx
    unfold updf
    rw [if_neg (ne x (.inl c))]
    exact fe.cyc x c
/-! ### progress -/
end
end U

/-! reach, cycles, anchors as the laws find them -/
namespace Law
open PySem PySem.Spec PyProof.Rows L2 U


section
variable {P : Program} {w : World} {K : PySem.W.Frag} {mg : Str → Option Value} {base : Heap}
end
end Law

/-! progress moves: the plain law -/
namespace U
open PySem PySem.Spec PyProof.Rows L2
def sz (ns : List Str) (h : Str → Int) : Int := (ns.map fun n => ((h n).natAbs : Int)).sum
def goP (f h : Str → Int) (m : Str × Int) : Bool := decide (0 < h m.1) && decide ((f m.1 - m.2) % 3 = 1) || decide (h m.1 < 0) && !decide ((f m.1 - m.2) % 3 = 1)
def progF (ns : List Str) (es : List (Str × Str)) (f h : Str → Int) (pn : List Str) : List (Str × Int) := (movesF ns es f pn).filter (goP f h)
def dirU (x : Int) : Int := if 0 < x then 1 else -1
/-- the value of a progress move -/
def pvF (f : Str → Int) (ys : List Str) (n : Str) (x : Int) : Option Int := if x ≠ 0 ∧ ∀ o ∈ ys, slp f n o = dirU x then some ((f n - dirU x) % 3) else none
def pmF (es : List (Str × Str)) (f h : Str → Int) (pn : List Str) (n : Str) : List (Str × Int) := match pvF f (nbS es n) n (h n) with
  | none => []
  | some v => if n ∈ pn then [] else [(n, v)]
theorem three {q : Int → Bool} {v0 : Int} {c : Bool} (h0 : 0 ≤ v0) (h2 : v0 ≤ 2) (h : ∀ v, 0 ≤ v → v ≤ 2 → q v = (decide (v = v0) && c)) : ([0, 1, 2] : List Int).filter q = if c = true then [v0] else [] := by
  have a := h 0 (by decide) (by decide)
  have b := h 1 (by decide) (by decide)
  have d := h 2 (by decide) (by decide)
  have e : v0 = 0 ∨ v0 = 1 ∨ v0 = 2 := by omega
  rcases e with rfl | rfl | rfl <;> cases c <;> simp_all [List.filter_cons]
section
variable {ns : List Str} {es : List (Str × Str)} {f h : Str → Int} {pn : List Str}
theorem prog_at (ok : EsOk ns es f) {n : Str} (hn : n ∈ ns) : (movesOf es f n).filter (goP f h) = match pvF f (nbS es n) n (h n) with
  | none => []
  | some v => [(n, v)] := by
  classical
  have tri := ok.tri n hn
  have nbr : ∀ o ∈ nbrF es n, 0 ≤ f o ∧ f o < 3 ∧ f n ≠ f o := fun o ho => by
    have a := adj_in ok (show Adj es n o from mem_nbrF.mp ho)
    exact ⟨(ok.tri o a.2.1).1, (ok.tri o a.2.1).2, a.2.2.1⟩
  have nbm : ∀ o, o ∈ nbS es n ↔ o ∈ nbrF es n := fun o => nbS_mem.trans mem_nbrF.symm
  have slo : ∀ o ∈ nbrF es n, ∀ d : Int, d = 1 ∨ d = -1 → (slp f n o = d ↔ f o ≠ (f n - d) % 3) := fun o ho d hd => by
    obtain ⟨a, b, c⟩ := nbr o ho
    unfold slp
    rcases hd with rfl | rfl <;> split <;> omega
  unfold movesOf
  rw [List.filter_map, List.filter_filter]
  have dd : dirU (h n) = 1 ∨ dirU (h n) = -1 := by
    unfold dirU
    split <;> simp
  rw [three (v0 := (f n - dirU (h n)) % 3) (c := decide (h n ≠ 0 ∧ ∀ o ∈ nbS es n, slp f n o = dirU (h n))) (by omega) (by omega) ?_]
  · unfold pvF
    by_cases c : h n ≠ 0 ∧ ∀ o ∈ nbS es n, slp f n o = dirU (h n)
    · rw [decide_eq_true c, if_pos rfl, if_pos c]
      rfl
    · rw [decide_eq_false c, if_neg Bool.false_ne_true, if_neg c]
      rfl
  · intro v v0 v2
    rw [Bool.eq_iff_iff, Bool.and_eq_true, Bool.and_eq_true, decide_eq_true_iff, decide_eq_true_iff]
    show (goP f h (n, v) = true ∧ freeB es f n v = true) ↔ _
    have fr : freeB es f n v = true ↔ (∀ o ∈ nbrF es n, f o ≠ v) ∧ v ≠ f n := by
      unfold freeB
      rw [Bool.not_eq_true', decide_eq_false_iff_not, List.mem_append, List.mem_singleton, List.mem_map, not_or]
      constructor
      · rintro ⟨a, b⟩
        exact ⟨fun o ho z => a ⟨o, ho, z⟩, b⟩
      · rintro ⟨a, b⟩
        exact ⟨fun ⟨o, ho, z⟩ => a o ho z, b⟩
    have go : goP f h (n, v) = true ↔ (0 < h n ∧ (f n - v) % 3 = 1) ∨ (h n < 0 ∧ ¬ (f n - v) % 3 = 1) := by
      unfold goP
      simp only [Bool.or_eq_true, Bool.and_eq_true, decide_eq_true_iff, Bool.not_eq_true', decide_eq_false_iff_not]
    rw [fr, go]
    constructor
    · rintro ⟨a, b, c⟩
      have ev : v = (f n - dirU (h n)) % 3 := by
        unfold dirU
        rcases a with a | a
        · rw [if_pos a.1]
          omega
        · rw [if_neg (by omega)]
          omega
      refine ⟨ev, by omega, fun o ho => (slo o ((nbm o).mp ho) _ dd).mpr ?_⟩
      rw [← ev]
      exact b o ((nbm o).mp ho)
    · rintro ⟨ev, c, k⟩
      refine ⟨?_, fun o ho => ?_, ?_⟩
      · unfold dirU at ev
        by_cases p : 0 < h n
        · rw [if_pos p] at ev
          left
          omega
        · rw [if_neg p] at ev
          right
          omega
      · rw [ev]
        exact (slo o ho _ dd).mp (k o ((nbm o).mpr ho))
      · rcases dd with z | z <;> rw [z] at ev <;> omega
theorem prog_eq (ok : EsOk ns es f) : ∀ {xs : List Str}, (∀ x ∈ xs, x ∈ ns) → progF xs es f h pn = xs.flatMap (pmF es f h pn)
  | [], _ => rfl
  | x :: r, hx => by
    have ih := prog_eq ok (xs := r) fun y hy => hx y (List.mem_cons_of_mem _ hy)
    unfold progF movesF at ih ⊢
    rw [List.flatMap_cons, List.filter_append, List.flatMap_cons, ih]
    congr 1
    unfold pmF
    by_cases c : x ∈ pn
    · rw [if_pos c]
      cases pvF f (nbS es x) x (h x) with
      | none => rfl
      | some v =>
        show _ = if x ∈ pn then [] else [(x, v)]
        rw [if_pos c]
        rfl
    · rw [if_neg c, prog_at ok (hx x List.mem_cons_self)]
      cases pvF f (nbS es x) x (h x) with
      | none => rfl
      | some v =>
        show _ = if x ∈ pn then [] else [(x, v)]
        rw [if_neg c]
theorem sz_zero : ∀ {ns : List Str}, sz ns h = 0 ↔ ∀ n ∈ ns, h n = 0
  | [] => ⟨(fun _ _ m => nomatch m), fun _ => rfl⟩
  | n :: r => by
    have ih := sz_zero (ns := r)
    have e : sz (n :: r) h = ((h n).natAbs : Int) + sz r h := List.sum_cons
    have p : ∀ xs : List Str, 0 ≤ sz xs h := fun xs => by
      induction xs with
      | nil => exact Int.le_refl _
      | cons x t ih =>
        have e : sz (x :: t) h = ((h x).natAbs : Int) + sz t h := List.sum_cons
        omega
    have := p r
    rw [e]
    constructor
    · intro z x hx
      rcases List.mem_cons.mp hx with rfl | hx
      · omega
      · exact ih.mp (by omega) x hx
    · intro z
      have a := z n List.mem_cons_self
      have b := ih.mpr fun x hx => z x (List.mem_cons_of_mem _ hx)
      omega
theorem prog_legal {m : Str × Int} (hm : m ∈ progF ns es f h pn) : Legal ns es f pn m ∧ goP f h m = true := ⟨legal_of (List.mem_filter.mp hm).1, (List.mem_filter.mp hm).2⟩
/-- the number after a progress move -/
theorem prog_dlt (ok : EsOk ns es f) {m : Str × Int} (hm : m ∈ progF ns es f h pn) : h m.1 - dlt (f m.1 - m.2) = h m.1 + (if 0 < h m.1 then -1 else 1) := by
  obtain ⟨l, g⟩ := prog_legal hm
  have go : (0 < h m.1 ∧ (f m.1 - m.2) % 3 = 1) ∨ (h m.1 < 0 ∧ ¬ (f m.1 - m.2) % 3 = 1) := by
    unfold goP at g
    simpa only [Bool.or_eq_true, Bool.and_eq_true, decide_eq_true_iff, Bool.not_eq_true', decide_eq_false_iff_not] using g
  have v := l.val
  have t := ok.tri _ l.mem
  have ne := l.own
  unfold dlt
  rcases go with ⟨a, b⟩ | ⟨a, b⟩
  · rw [if_pos a, if_neg (by omega), if_pos b]
    omega
  · have c : ¬ 0 < h m.1 := by omega
    rw [if_neg c, if_neg (by omega), if_neg b]
    omega
end
end U

/-! progress moves -/
namespace Law
open PySem PySem.Spec PyProof.Rows L2 U


def optV : Option Int → V
  | none => .non
  | some v => .int v
def spPval : Sp := fun vs H Q _ => ∃ (st al : Addr) (n : Str) (x : Int) (ord ys : List Str) (f : Str → Int), vs = [.ref st, .ref al, .str n, .int x] ∧ H st = some (.dK (kvF ord f)) ∧ H al = some (.lst (ys.map V.str)) ∧ n ∈ ord ∧ (∀ y ∈ ys, y ∈ ord) ∧ ys.length ≤ 2000 ∧
  ∀ H' : Hp, Same H H' → Q (optV (pvF f ys n x)) H'
def spPwith (K : PySem.W.Frag) : Sp := fun vs H Q _ => ∃ (g n e st ad c ps : Addr) (ns ord pn : List Str) (es : List (Addr × Str × Str)) (f h : Str → Int) (Ad : Str → Addr), vs = [.ref g, .ref st, .ref ad, .ref c, .ref ps] ∧ GSt H g n e st ns ord es f ∧ AdjAt H ad ns (es.map (·.2)) Ad ∧ H c = some (.dK (kvF ns h)) ∧ SqT K H ps (pn.map V.str) ∧
  ∀ (l : Addr) (ms : List (Addr × Str × Int)) (H' : Hp), Same H H' → H l = none → H' l = some (.lst (ms.map fun m => V.ref m.1)) → TupsAt H' ms → ms.map (·.2) = progF ns (es.map (·.2)) f h pn → Q (.ref l) H'
def spProg (K : PySem.W.Frag) : Sp := fun vs H Q _ => ∃ (g n e st c ps : Addr) (ns ord pn : List Str) (es : List (Addr × Str × Str)) (f h : Str → Int), vs = [.ref g, .ref st, .ref c, .ref ps] ∧ GSt H g n e st ns ord es f ∧ H c = some (.dK (kvF ns h)) ∧ SqT K H ps (pn.map V.str) ∧
  ∀ (l : Addr) (ms : List (Addr × Str × Int)) (H' : Hp), Same H H' → H l = none → H' l = some (.lst (ms.map fun m => V.ref m.1)) → TupsAt H' ms → ms.map (·.2) = progF ns (es.map (·.2)) f h pn → Q (.ref l) H'
section
variable {P : Program} {w : World} {K : PySem.W.Frag} {mg : Str → Option Value} {base : Heap}
structure E2a (P : Program) (w : World) (K : PySem.W.Frag) (mg : Str → Option Value) (base : Heap) : Prop where
  slope : Cal P w K mg base CX0 1 "slope" spSlope
  UP : ∃ u, mg "UP" = some u ∧ RelV (.int 1) u
  DOWN : ∃ u, mg "DOWN" = some u ∧ RelV (.int (-1)) u
theorem ok_pval {f : Addr} {fd : FuncData} (F : Fun K "progress_value" "progress_value" s_progress_value f fd) (B : Bt mg) (C : E2a P w K mg base) : FnG P w K mg base CX0 2 f fd ["state", "adjacent", "node", "number"] spPval := by
  refine fnG0 F sc_progress_value (fun vs H Q E h => ?_) (fun cdv A outer s H vs Q E hr h => ?_)
  · obtain ⟨st, al, n, x, ord, ys, f, rfl, _⟩ := h
    rfl
  · obtain ⟨st, al, n, x, ord, ys, f, rfl, hst, hal, hn, hys, yl, q⟩ := h
    have nd := sc_progress_value.nd
    have hu := hr.u1
    refine ⟨_, (pss_cons (ps_set (i := 4) nd rfl (by first | exact Or.inl rfl | exact Or.inr rfl) (pe_ifExp (pt_cmpR uGt (pv 3) pe_int (nomark _)) (pe_gl rfl C.UP) (pe_gl rfl C.DOWN)))
  (pss_cons (ps_if (PW.pt (pw_or (pt_cmpR (kEq K rfl hr.u64) (pv 3) pe_int (nomark _)) (pw_or1 (pt_not (pt_val (pe_callB (kAll K rfl rfl) (by rfl) B.all bb_all (pa_cons (pe_lc (own := [("other", 5)]) rfl nd (ki_list K rfl (pv 1)) (blkOk_by (own := [("other", 5)]) (N := nN_progress_value) (sc := defScope s_progress_value) (by decide +kernel)) (fun _ _ _ _ _ => (pg_name (i := 5) nd rfl (by first | exact Or.inl rfl | exact Or.inr rfl))) (fun _ _ _ _ _ => pts_nil) (fun _ _ _ _ _ => (pe_cmpR (kEq K rfl hr.u64) (pe_c C.slope hr (by decide) rfl (pa_cons (pv 0) (pa_cons (pv 2) (pa_cons (pv 5) pa_nil)))) (pv 4) (nomark _)))) pa_nil))))))) (pss_one (ps_ret pe_non)) pss_nil)
  (pss_one (ps_ret (pe_op uMod (pe_op uSub (pe_dget hu (pv 0) (pv 2) (fun _ _ => rfl)) (pv 4)) pe_int))))), ?_⟩
    wtm_at "rd"
    refine rd_split (fun c => ?_) (fun c => ?_)
    · have ed : (1 : Int) = dirU x := (if_pos c).symm
      clear c
      generalize (1 : Int) = d at ed ⊢
      wtm_at "rd"
      refine rd_split (fun c => ?_) (fun c => ?_)
      · refine rd_T ?_
        wtm_at "rd"
        have e : pvF f ys n x = none := if_neg fun z => z.1 c
        rw [e] at q
        exact q H (.refl _)
      · wtm_at "rd"
        refine rd_forL (SqL.of hal) ?_
        intro D fD
        refine lcL (K := K) (xs := ys.map V.str) (fun i H' => Same H H' ∧ H' D = some (.lst (((ys.take i).map fun o => decide (slp f n o = d)).map V.bl))) ⟨Same.new fD, upd_same⟩ ?_ ?_ ?_
        · rintro i H' hi ⟨s, _⟩
          exact SqL.of (s _ _ hal)
        · rintro i y H' hy ⟨s, hD⟩
          obtain ⟨hi, rfl⟩ := map_at hy
          wtm_at "rd"
          refine ⟨st, n, ys[i], ord, f, rfl, .inl (s _ _ hst), hn, hys _ (List.getElem_mem hi), ?_⟩
          wtm_at "rd"
          refine rd_acc hD (by rw [List.length_map, List.length_map, List.length_take]; omega) ?_
          refine ⟨same_put s fD, ?_⟩
          rw [upd_same, take_snoc hi, List.map_append, List.map_append]
          rfl
        · rintro H' ⟨s, hD⟩
          rw [List.length_map, List.take_length] at hD
          wtm_at "rd"
          refine rd_allL (SqL.of hD) ?_
          wtm_at "rd"
          have ea : ((ys.map fun o => decide (slp f n o = d)).all id = true) ↔ ∀ o ∈ ys, slp f n o = dirU x := by
            rw [List.all_map, List.all_eq_true, ← ed]
            exact ⟨fun h o ho => of_decide_eq_true (h o ho), fun h o ho => decide_eq_true (h o ho)⟩
          by_cases k : ∀ o ∈ ys, slp f n o = dirU x
          · rw [ea.mpr k]
            wtm_at "rd"
            refine rd_dat (.inl (s _ _ hst)) (kvF_val hn) rfl ?_
            wtm_at "rd"
            have e : pvF f ys n x = some ((f n - d) % 3) := by
              unfold pvF
              rw [if_pos ⟨c, k⟩, ed]
            rw [e] at q
            exact q H' s
          · have ea2 : (ys.map fun o => decide (slp f n o = d)).all id = false := by
              rw [← Bool.not_eq_true]
              exact fun z => k (ea.mp z)
            rw [ea2]
            wtm_at "rd"
            have e : pvF f ys n x = none := if_neg fun z => k z.2
            rw [e] at q
            exact q H' s
    · have ed : (-1 : Int) = dirU x := (if_neg c).symm
      clear c
      generalize (-1 : Int) = d at ed ⊢
      wtm_at "rd"
      refine rd_split (fun c => ?_) (fun c => ?_)
      · refine rd_T ?_
        wtm_at "rd"
        have e : pvF f ys n x = none := if_neg fun z => z.1 c
        rw [e] at q
        exact q H (.refl _)
      · wtm_at "rd"
        refine rd_forL (SqL.of hal) ?_
        intro D fD
        refine lcL (K := K) (xs := ys.map V.str) (fun i H' => Same H H' ∧ H' D = some (.lst (((ys.take i).map fun o => decide (slp f n o = d)).map V.bl))) ⟨Same.new fD, upd_same⟩ ?_ ?_ ?_
        · rintro i H' hi ⟨s, _⟩
          exact SqL.of (s _ _ hal)
        · rintro i y H' hy ⟨s, hD⟩
          obtain ⟨hi, rfl⟩ := map_at hy
          wtm_at "rd"
          refine ⟨st, n, ys[i], ord, f, rfl, .inl (s _ _ hst), hn, hys _ (List.getElem_mem hi), ?_⟩
          wtm_at "rd"
          refine rd_acc hD (by rw [List.length_map, List.length_map, List.length_take]; omega) ?_
          refine ⟨same_put s fD, ?_⟩
          rw [upd_same, take_snoc hi, List.map_append, List.map_append]
          rfl
        · rintro H' ⟨s, hD⟩
          rw [List.length_map, List.take_length] at hD
          wtm_at "rd"
          refine rd_allL (SqL.of hD) ?_
          wtm_at "rd"
          have ea : ((ys.map fun o => decide (slp f n o = d)).all id = true) ↔ ∀ o ∈ ys, slp f n o = dirU x := by
            rw [List.all_map, List.all_eq_true, ← ed]
            exact ⟨fun h o ho => of_decide_eq_true (h o ho), fun h o ho => decide_eq_true (h o ho)⟩
          by_cases k : ∀ o ∈ ys, slp f n o = dirU x
          · rw [ea.mpr k]
            wtm_at "rd"
            refine rd_dat (.inl (s _ _ hst)) (kvF_val hn) rfl ?_
            wtm_at "rd"
            have e : pvF f ys n x = some ((f n - d) % 3) := by
              unfold pvF
              rw [if_pos ⟨c, k⟩, ed]
            rw [e] at q
            exact q H' s
          · have ea2 : (ys.map fun o => decide (slp f n o = d)).all id = false := by
              rw [← Bool.not_eq_true]
              exact fun z => k (ea.mp z)
            rw [ea2]
            wtm_at "rd"
            have e : pvF f ys n x = none := if_neg fun z => k z.2
            rw [e] at q
            exact q H' s
structure E2b (P : Program) (w : World) (K : PySem.W.Frag) (mg : Str → Option Value) (base : Heap) : Prop where
  progress_value : Cal P w K mg base CX0 2 "progress_value" spPval
theorem ok_pwith {f : Addr} {fd : FuncData} (F : Fun K "progress_moves_with" "progress_moves_with" s_progress_moves_with f fd) (B : Bt mg) (C : E2b P w K mg base) : FnG P w K mg base CX0 3 f fd ["graph", "state", "adjacent", "lift", "pinned"] (spPwith K) := by
  refine fnG0 F sc_progress_moves_with (fun vs H Q E h => ?_) (fun cdv A outer s H vs Q E hr h => ?_)
  · obtain ⟨g, n, e, st, ad, c, ps, ns, ord, pn, es, f, h, Ad, rfl, _⟩ := h
    rfl
  · obtain ⟨g, n, e, st, ad, c, ps, ns, ord, pn, es, f, h, Ad, rfl, gs, had, hc, hps, q⟩ := h
    have nd := sc_progress_moves_with.nd
    have hu := hr.u1
    refine ⟨_, (pss_cons (ps_set (i := 5) nd rfl (by first | exact Or.inl rfl | exact Or.inr rfl) (pe_lst pa_nil))
  (pss_cons (ps_for PassesOwn.never rfl (ki_tup K rfl (pe_ix (kIx K rfl) (pv 0) pe_int (fun _ _ => rfl))) (pg_name (i := 6) nd rfl (by first | exact Or.inl rfl | exact Or.inr rfl)) (pss_cons (ps_set (i := 7) nd rfl (by first | exact Or.inl rfl | exact Or.inr rfl) (pe_c C.progress_value hr (by decide) rfl (pa_cons (pv 1) (pa_cons (pe_dget hu (pv 2) (pv 6) (fun _ _ => rfl)) (pa_cons (pv 6) (pa_cons (pe_dget hu (pv 3) (pv 6) (fun _ _ => rfl)) pa_nil))))))
  (pss_one (ps_if (PW.pt (pw_and (pt_cmpR uIsNot (pv 7) pe_non (nomark _)) (pw_and1 (pt_cmpR (kNotIn K rfl) (pv 6) (pv 4) rfl)))) (pss_one (ps_expr (pe_bm PySem.F.plainAttrs_list PySem.F.slot_list_append PySem.F.type_list_append mt_append (pv 5) (pa_cons (pe_tup (pa_cons (pv 6) (pa_cons (pv 7) pa_nil))) pa_nil)))) pss_nil))))
  (pss_one (ps_ret (pv 5))))), ?_⟩
    have l1 : ns.length ≤ 100 := gs.l2
    wtm_at "rd"
    intro l fl
    have s1 := Same.new (o := .lst []) fl
    have hl1 := @upd_same H l (.lst [])
    generalize upd H l (.lst []) = H1 at s1 hl1
    wtm_at "rd"
    refine rd_ixT (SqT.of (s1 _ _ gs.gr.top)) (v := .ref n) rfl ?_
    refine rd_forT (SqT.of (s1 _ _ gs.gr.nodes)) ?_
    refine turnsT (K := K) (xs := ns.map V.str) (fun i σ H' => ∃ (ms : List (Addr × Str × Int)) (u7 u8 : Option V), σ = [some (.ref g), some (.ref st), some (.ref ad), some (.ref c), some (.ref ps), some (.ref l), u7, u8] ∧ Same H H' ∧ H' l = some (.lst (ms.map fun m => V.ref m.1)) ∧ TupsAt H' ms ∧ ms.length ≤ i ∧ ms.map (·.2) = (ns.take i).flatMap (pmF (es.map (·.2)) f h pn))
      ⟨[], _, _, rfl, s1, hl1, TupsAt.nil, Nat.le_refl _, rfl⟩ ?_ ?_ ?_
    · rintro i σ H' hi ⟨ms, u7, u8, rfl, s, _⟩
      exact SqT.of (s _ _ gs.gr.nodes)
    · rintro i y σ H2 hy ⟨ms, u7, u8, rfl, s, hl, tm, ml, em⟩
      obtain ⟨hi, rfl⟩ := map_at hy
      have hx := List.getElem_mem hi
      rw [take_snoc hi, List.flatMap_append, ← em]
      generalize ns[i] = x at *
      have had2 := had.same s
      have hos := had2.at gs.ok hx
      have osn : ∀ o ∈ nbS (es.map (·.2)) x, o ∈ ord := fun o ho => gs.inO _ (nbS_in gs.ok ho)
      have osl : (nbS (es.map (·.2)) x).length ≤ 2000 := by
        unfold nbS
        rw [(sortS_perm _).length_eq]
        have := nbrF_len (x := x) (es := es.map (·.2))
        rw [List.length_map] at this
        have := gs.l3
        omega
      have pm : List.flatMap (pmF (es.map (·.2)) f h pn) [x] = match pvF f (nbS (es.map (·.2)) x) x (h x) with
        | none => []
        | some v => if x ∈ pn then [] else [(x, v)] := List.append_nil _
      rw [pm]
      clear pm
      generalize nbS (es.map (·.2)) x = os at *
      wtm_at "rd"
      refine rd_dat (.inl had2.di) (kvG_val hx) rfl ?_
      wtm_at "rd"
      refine rd_dat (.inl (s _ _ hc)) (kvF_val hx) rfl ?_
      wtm_at "rd"
      refine ⟨st, _, x, h x, ord, os, f, rfl, s _ _ gs.st, hos, gs.inO _ hx, osn, osl, fun H3 s3 => ?_⟩
      have s13 := s.trans s3
      have hl3 := s3 _ _ hl
      have tm3 := tm.same s3
      cases hp : pvF f os x (h x) with
      | none =>
        rw [show optV none = V.non from rfl]
        wtm_at "rd"
        rw [show (!decide (V.non = V.non)) = false from by decide]
        wtm_at "rd"
        exact ⟨ms, _, _, rfl, s13, hl3, tm3, by omega, (List.append_nil _).symm⟩
      | some v =>
        rw [show optV (some v) = V.int v from rfl]
        wtm_at "rd"
        rw [decide_eq_false (fun z => nomatch z : ¬ V.int v = V.non)]
        wtm_at "rd"
        refine rd_ninST (Same.seqT s13 hps) ?_
        wtm_at "rd"
        refine rd_nsplit (fun c1 => ?_) (fun c1 => ?_)
        · wtm_at "rd"
          refine rd_tyL hl3 ?_
          wtm_at "rd"
          intro t ft
          have s4 := same_add (o := .tup [.str x, .int v]) s13 ft
          have hl4 := at_upd (o := .tup [.str x, .int v]) (ne_of_none hl3 ft) hl3
          have tm4 := tm3.new (o := .tup [.str x, .int v]) ft
          have ht := @upd_same H3 t (.tup [.str x, .int v])
          generalize upd H3 t (.tup [.str x, .int v]) = H4 at s4 hl4 tm4 ht
          wtm_at "rd"
          refine rd_append hl4 (by rw [List.length_map]; omega) ?_
          refine ⟨ms ++ [(t, x, v)], _, _, rfl, same_put s4 fl, by rw [upd_same, List.map_append]; rfl, TupsAt.put (tm4.app ?_) hl4, by rw [List.length_append, List.length_singleton]; omega, ?_⟩
          · intro m hm
            rw [List.mem_singleton] at hm
            subst hm
            exact ht
          · rw [List.map_append]
            show _ = _ ++ (if x ∈ pn then [] else [(x, v)])
            rw [if_neg c1]
            rfl
        · wtm_at "rd"
          refine ⟨ms, _, _, rfl, s13, hl3, tm3, by omega, ?_⟩
          show _ = _ ++ (if x ∈ pn then [] else [(x, v)])
          rw [if_pos c1, List.append_nil]
    · rintro σ H' ⟨ms, u7, u8, rfl, s, hl, tm, ml, em⟩
      rw [List.length_map, List.take_length] at em
      wtm_at "rd"
      exact q l ms H' s fl hl tm (em.trans (prog_eq gs.eok fun _ h => h).symm)
structure E2c (P : Program) (w : World) (K : PySem.W.Frag) (mg : Str → Option Value) (base : Heap) : Prop where
  adjacency : Cal P w K mg base CX0 1 "adjacency" spAdj
  progress_moves_with : Cal P w K mg base CX0 3 "progress_moves_with" (spPwith K)
theorem ok_prog {f : Addr} {fd : FuncData} (F : Fun K "progress_moves" "progress_moves" s_progress_moves f fd) (B : Bt mg) (C : E2c P w K mg base) : FnG P w K mg base CX0 4 f fd ["graph", "state", "lift", "pinned"] (spProg K) := by
  refine fnG0 F sc_progress_moves (fun vs H Q E h => ?_) (fun cdv A outer s H vs Q E hr h => ?_)
  · obtain ⟨g, n, e, st, c, ps, ns, ord, pn, es, f, h, rfl, _⟩ := h
    rfl
  · obtain ⟨g, n, e, st, c, ps, ns, ord, pn, es, f, h, rfl, gs, hc, hps, q⟩ := h
    have nd := sc_progress_moves.nd
    have hu := hr.u1
    refine ⟨_, (pss_one (ps_ret (pe_c C.progress_moves_with hr (by decide) rfl (pa_cons (pv 0) (pa_cons (pv 1) (pa_cons (pe_c C.adjacency hr (by decide) rfl (pa_cons (pv 0) pa_nil)) (pa_cons (pv 2) (pa_cons (pv 3) pa_nil)))))))), ?_⟩
    wtm_at "rd"
    refine ⟨g, n, e, ns, es, rfl, gs.grs, fun ad Ad H1 s1 _ had => ?_⟩
    wtm_at "rd"
    exact ⟨g, n, e, st, ad, c, ps, ns, ord, pn, es, f, h, Ad, rfl, gs.same s1, had, s1 _ _ hc, Same.seqT s1 hps, fun l ms H' s' fl hl tm em => q l ms H' (s1.trans s') (new_of_same s1 fl) hl tm em⟩
end
end Law

/-! a lambda with parameters and without captured names: entered -/
namespace U
open PySem PySem.Spec PyProof.Rows L2
abbrev lamFn (q : Str) (params : Arguments) (body : Expr) (scope : Scope) (pm : Value) (c' : Addr) (ctv : Value) : FuncData := PySem.W.kla_fn "<lambda>" q params body scope [] pm (.ref c') ctv
theorem run_lam {CX : CXT} {P : Program} {w : World} {K : PySem.W.Frag} {mg : Str → Option Value} {base : Heap} {k : Nat} {f c' : Addr} {q : Str} {params : Arguments} {body : Expr} {scope : Scope} {pm ctv : Value} {N ps : List Str} (S : FnScope N ps scope)
    {A : Around} {outer : List Env} {s : Shared} {H : Hp} {args : Args} {us : List Value} {vs : List V} {Q : VK} {E : XK} (ho : s.heap.get? f = some (PySem.W.kla_obj "<lambda>" q params body scope [] pm c' ctv)) (hc : s.heap.CodeRec (.ref c') q)
    (hr : Room (k + 1) A) (e0 : Env0 P w K mg base A outer s H) (hb : BindsTo s (lamFn q params body scope pm c' ctv) args (ps.zip us)) (r : Vals vs us) (hl : vs.length = ps.length)
    (hbody : Room k (A.deeper (envOfC q scope s.heap.objs.size f (.ref c'))) → ∃ t, PE (cxOf CX P w K mg base N q scope f (.ref c') A outer s H E) body t ∧ t (L2.start N vs) H Q) :
    codeAny (model P w) A (.call (.ref f) args) (CR CX outer P w H s Q E) s := by
  have lim : s.heap.NoLimit := e0.mod.nolimit.keeps fun b o e => (e0.bs b o e).1
  have kinds : ∀ y ∈ ps.zip us, scope.names.lookup y.1 = some .local ∨ (scope.names.lookup y.1 = some .cell ∧ ((cellsFrom (s.heap.objs.size + 1) scope.names []).lookup y.1).isSome = true) := fun y hy => by
    rcases S.par y.1 (List.of_mem_zip (show (y.1, y.2) ∈ ps.zip us from hy)).1 with z | z
    · exact .inl z
    · exact .inr ⟨z, PySem.W.cellsFrom_some _ _ _ (.inl z)⟩
  refine PySem.W.kla_callFunE hr.depth ho rfl S.co S.gen rfl hc (hb _ _ _ _ ?_)
  refine wpAny_newFunctionEnv_cells S.kind kinds fun env he s1 x => ?_
  subst he
  obtain ⟨t, ht, hq⟩ := hbody (hr.deeper _)
  have I : Inv (cxOf CX P w K mg base N q scope f (.ref c') A outer s H E) [] (L2.start N vs) H s1 := inv_start S hr.hd e0 hl r x
  refine ⟨lim.keeps x.toInCall.keep, PySem.W.kla_codeExpr (wpAny_mono (ht.run [] s1 _ H Q I hq) (fun u s' hs => ?_) fun e s' hs => hs)⟩
  obtain ⟨v, H', J, rv, hQ⟩ := hs
  exact ⟨v, H', J.os, J.bare, J.base, J.hok, rv, hQ⟩
end U
namespace U
open PySem PySem.Spec PyProof.Rows L2 PySem.W
def dKey (names : List Str) : PyData := .tuple [.int (names.length : Int), .list (names.map PyData.str)]
theorem alike_strs : ∀ xs ys : List Str, alikeAll (xs.map PyData.str) (ys.map PyData.str) = true
  | [], ys => by cases ys <;> simp [alikeAll]
  | x :: xs, [] => by simp [alikeAll]
  | x :: xs, y :: ys => by
    rw [List.map_cons, List.map_cons, alikeAll, alike_strs xs ys]
    simp [alike]
theorem alike_key (xs ys : List Str) : alike (dKey xs) (dKey ys) = true := by
  unfold dKey
  simp [alike, alikeAll, alike_strs]
theorem depth_key (xs : List Str) : (dKey xs).depth ≤ 3 := by
  have e : ∀ xs : List Str, PyData.depthAll (xs.map PyData.str) = 0 := fun xs => by
    induction xs with
    | nil => simp [PyData.depthAll]
    | cons x r ih => rw [List.map_cons, PyData.depthAll, PyData.depth, ih]; rfl
  unfold dKey
  simp [PyData.depth, PyData.depthAll, e]
theorem reads_strs {h : Heap} : ∀ {xs : List Str} {us : List Value}, Vals (xs.map V.str) us → ∃ as, ReadsAll h us (xs.map PyData.str) as
  | [], _, r => by
    cases r
    exact ⟨_, .nil⟩
  | x :: xs, _, r => by
    cases r with
    | cons r rr =>
      obtain ⟨tk, rfl⟩ := r
      obtain ⟨as, ra⟩ := reads_strs rr
      exact ⟨_, .cons (.str x tk) ra⟩
end U
namespace U
open PySem PySem.Spec PyProof.Rows L2 PySem.W
/-- no more than new things, the callers' frames but for their slots -/
def Jm (X : Cx) (s0 s' : Shared) : Prop := s'.os = s0.os ∧ AllBare s'.gens ∧ Un (frs X.stack) [] (fun _ => none) (fun _ => none) s0.heap s'.heap
def Vm (X : Cx) (av : List Addr) (items : List (Addr × List Str)) (i : Nat) (k : Value) (s' : Shared) : Prop :=
  ∃ (t a : Addr) (names : List Str) (tk : Tok), items[i]? = some (a, names) ∧ k = .ref t ∧ t ∉ av ∧ t ∉ frs X.stack ∧ IsTup s'.heap t #[.int (names.length : Int) tk, .ref a]
/-- the paths stand, known to the object -/
def Hc (H : Hp) (s0 : Shared) (items : List (Addr × List Str)) : Hp := fun b => match H b, s0.heap.get? b with
  | some (.lst xs), some o => if b ∈ items.map (·.1) then some (.frz o (.lst xs)) else none
  | _, _ => none
theorem hc_some {H : Hp} {s0 : Shared} {items : List (Addr × List Str)} {b : Addr} {u : HO} (h : Hc H s0 items b = some u) : ∃ xs o, H b = some (.lst xs) ∧ s0.heap.get? b = some o ∧ u = .frz o (.lst xs) := by
  unfold Hc at h
  split at h
  · rename_i xs o e1 e2
    split at h
    · exact ⟨xs, o, e1, e2, (Option.some.inj h).symm⟩
    · cases h
  · cases h
theorem hc_none {H : Hp} {s0 : Shared} {items : List (Addr × List Str)} {b : Addr} (h : H b = none) : Hc H s0 items b = none := by
  cases e : Hc H s0 items b with
  | none => rfl
  | some u =>
    obtain ⟨xs, o, e1, _⟩ := hc_some e
    rw [h] at e1
    cases e1
theorem hc_new {H : Hp} {s0 : Shared} {items : List (Addr × List Str)} {b : Addr} (h : s0.heap.get? b = none) : Hc H s0 items b = none := by
  cases e : Hc H s0 items b with
  | none => rfl
  | some u =>
    obtain ⟨xs, o, _, e1, _⟩ := hc_some e
    rw [h] at e1
    cases e1
section
variable {X : Cx} {pins : List (Addr × Obj)} {σ : L2.St} {H : Hp} {s0 s : Shared}
theorem Jm.refl (I : Inv X pins σ H s0) : Jm X s0 s0 := ⟨rfl, I.bare, Un.refl⟩
theorem Jm.inv (I : Inv X pins σ H s0) (j : Jm X s0 s) : Inv X pins σ H s := by
  obtain ⟨os, bare, un⟩ := j
  have e0 := I.env0
  have raw : ∀ b u, H b = some u → ∀ o, s0.heap.get? b = some o → s.heap.get? b = some o := fun b u hb o ho => un.keep b o ho rfl (fun z => by rw [e0.frf b z] at hb; cases hb) (by simp)
  refine I.call' (ch := []) os ⟨fun b o e _ h1 h2 => un.keep b o e rfl h1 h2, fun b o e _ h1 h2 => un.slot b o e rfl h1 h2, fun _ _ _ n _ => n, un.there, fun _ _ q => q, fun _ _ _ q => q, fun _ ps q => ⟨#[], by rw [q]; simp⟩⟩ (fun a u e => ?_) bare (fun b hb => absurd hb (by simp))
  refine (I.hok a u e).stay (fun b o hb ho => ?_) (fun _ q => q) fun _ _ q => q
  rcases hb with rfl | hb
  · exact raw _ _ e o ho
  · exact raw _ _ hb o ho
variable {A : Around} {q : Str} {params : Arguments} {body : Expr} {scope : Scope} {pm ctv : Value} {f c' l : Addr} {items : List (Addr × List Str)} {its : List Value} {N : List Str} {p : Str} {tb : TE} {k : Nat}
theorem in1_room (h : Room (k + 2) A) : Room (k + 1) A.in1 := by
  have a := h.dp
  have b := h.un
  refine ⟨h.hd, ?_, ?_⟩
  · have : A.in1.depth = A.depth := rfl
    omega
  · have : A.in1.units = A.units + 1 := rfl
    omega
theorem fr_old (I : Inv X pins σ H s0) {b : Addr} (hb : b ∈ frs X.stack) : ∃ o, s0.heap.get? b = some o := by
  obtain ⟨_, o, ho, _⟩ := I.env0.funs.mem hb
  exact ⟨o, ho⟩
theorem env_c (I : Inv X pins σ H s0) (j : Jm X s0 s) : Env0 X.prog X.w X.K X.mg X.base X.A.in1 X.stack s (Hc H s0 items) := by
  have e := (j.inv I).env0
  refine ⟨e.frames, e.mod, fun b o h => ⟨(e.bs b o h).1, hc_none (e.bs b o h).2⟩, e.bsz, e.funs, fun b hb => hc_none (e.frf b hb), fun a u h => ?_, e.bare⟩
  obtain ⟨xs, o, h1, h2, rfl⟩ := hc_some h
  have k := e.hok a _ h1
  exact ⟨j.2.2.keep a o h2 rfl (fun z => by rw [e.frf a z] at h1; cases h1) (by simp), k⟩
/-- what the call of the lambda keeps -/
theorem lam_kept (I : Inv X pins σ H s0) (j : Jm X s0 s) {s' : Shared} {H' : Hp} (un : Un (frs X.stack) [] (Hc H s0 items) H' s.heap s'.heap) (hok : HOk X.prog X.w H' s'.heap) {b : Addr} {o : Obj} (ho : s.heap.get? b = some o) (hb : b ∉ frs X.stack) : s'.heap.get? b = some o := by
  cases e : Hc H s0 items b with
  | none => exact un.keep b o ho e hb (by simp)
  | some u =>
    obtain ⟨xs, o2, h1, h2, rfl⟩ := hc_some e
    have k1 := (show s.heap.get? b = some o2 ∧ _ from (env_c (items := items) I j).hok b _ e).1
    rw [ho] at k1
    obtain rfl := Option.some.inj k1
    exact (show s'.heap.get? b = some o ∧ _ from hok b _ (un.frzs b _ _ e)).1
def nmAt (items : List (Addr × List Str)) (i : Nat) : List Str := (items[i]?.map (·.2)).getD []
theorem nm_at {items : List (Addr × List Str)} {i : Nat} {a : Addr} {names : List Str} (h : items[i]? = some (a, names)) : nmAt items i = names := by
  unfold nmAt
  rw [h]
  rfl
theorem vals_at {items : List (Addr × List Str)} {its : List Value} (r : Vals (items.map fun i => V.ref i.1) its) {i : Nat} {v : Value} (h : its.toArray[i]? = some v) : ∃ a names, items[i]? = some (a, names) ∧ v = .ref a := by
  have h2 : its[i]? = some v := by simpa using h
  have hi : i < its.length := (List.getElem?_eq_some_iff.mp h2).1
  have hi2 : i < items.length := by
    have := r.length
    rw [List.length_map] at this
    omega
  obtain ⟨u, e1, e2⟩ := r.get (i := i) (x := .ref items[i].1) (by rw [List.getElem?_map, List.getElem?_eq_getElem hi2]; rfl)
  rw [h2] at e1
  exact ⟨items[i].1, items[i].2, List.getElem?_eq_getElem hi2, (Option.some.inj e1).trans e2⟩
theorem reads_key (I : Inv X pins σ H s0) (j : Jm X s0 s) {t a : Addr} {names : List Str} {tk : Tok} (ha : H a = some (.lst (names.map V.str))) (ht : IsTup s.heap t #[.int (names.length : Int) tk, .ref a]) : ∃ as, Reads s.heap (.ref t) (dKey names) as := by
  obtain ⟨_, us, n, r, e⟩ := (j.inv I).hok a _ ha
  obtain ⟨as, ra⟩ := reads_strs r
  obtain ⟨o, h1, h2, m, h3⟩ := ht
  have ra2 : ReadsAll s.heap us.toArray.toList (names.map PyData.str) as := by simpa using ra
  exact ⟨_, Reads.tuple h1 h2 h3 (.cons (.int _ tk) (.cons (Reads.list e rfl rfl ra2) .nil))⟩
theorem key_run (I : Inv X pins σ H s0) (hr : Room (k + 2) X.A) (S : FnScope N [p] scope) (hitem : ∀ i ∈ items, H i.1 = some (.lst (i.2.map V.str))) (hlv : Vals (items.map fun i => V.ref i.1) its) (hl : s0.heap.IsList l its.toArray) (hlf : l ∉ frs X.stack)
    (hf : s0.heap.get? f = some (PySem.W.kla_obj "<lambda>" q params body scope [] pm c' ctv)) (hff : f ∉ frs X.stack) (hcd : s0.heap.CodeRec (.ref c') q) (hcf : c' ∉ frs X.stack)
    (hbind : ∀ (s : Shared) (u : Value), BindsTo s (lamFn q params body scope pm c' ctv) ⟨[u], []⟩ [(p, u)])
    (hbody : ∀ (A : Around) (outer : List Env) (s : Shared) (H : Hp) (E : XK), Room k (A.deeper (envOfC q scope s.heap.objs.size f (.ref c'))) → PE (cxOf (fun _ _ _ _ _ _ => False) X.prog X.w X.K X.mg X.base N q scope f (.ref c') A outer s H E) body tb)
    (htb : ∀ (a : Addr) (names : List Str) (o : Obj) (H : Hp) (Q : VK), H a = some (.frz o (.lst (names.map V.str))) → (∀ t H', H t = none → H' t = some (.tup [.int (names.length : Int), .ref a]) → Q (.ref t) H') → tb (L2.start N [.ref a]) H Q)
    {s2 : Shared} (es : s2.heap.objs.size = s0.heap.objs.size + 1) :
    KeyRun X.prog X.w X.A.in1 (.ref f) .Lt s2.heap.objs.size [s0.heap.objs.size] (fun a b => b = a) its.toArray.size (fun i v => its.toArray[i]? = some v) (fun i s' => s'.heap.IsListIter s0.heap.objs.size l i ∧ s'.heap.IsList l its.toArray)
      (Jm X s0) (Vm X [s2.heap.objs.size, s0.heap.objs.size] items) (fun i j => dataLt (dKey (nmAt items i)) (dKey (nmAt items j))) := by
  have old : ∀ b o, s0.heap.get? b = some o → b ∉ s2.heap.objs.size :: [s0.heap.objs.size] := fun b o h z => by
    have lt := Heap.lt_size h
    rcases List.mem_cons.mp z with z | z
    · rw [z, es] at lt
      exact Nat.lt_irrefl _ (Nat.lt_of_succ_lt lt)
    · rw [List.mem_singleton] at z
      rw [z] at lt
      exact Nat.lt_irrefl _ lt
  have frl : ∀ b, b ∈ frs X.stack → b < s0.heap.objs.size := fun b hb => by
    obtain ⟨o, ho⟩ := fr_old I hb
    exact Heap.lt_size ho
  have nI : s0.heap.objs.size ∉ frs X.stack := fun z => Nat.lt_irrefl _ (frl _ z)
  have nS : s2.heap.objs.size ∉ frs X.stack := fun z => by
    have := frl _ z
    rw [es] at this
    exact Nat.lt_irrefl _ (Nat.lt_of_succ_lt this)
  have new : ∀ b, s0.heap.objs.size ≤ b → s0.heap.get? b = none := fun b hb => Heap.get?_none_of_le hb
  refine ⟨fun s s' j m => ?_, fun i v s s' hv m => ?_, ?_, ?_⟩
  · obtain ⟨j1, j2, un⟩ := j
    refine ⟨m.os.trans j1, by rw [show s'.gens = s.gens from m.gens]; exact j2, ⟨fun b o h _ hb hx => m.heap b o (old b o h) (un.keep b o h rfl hb hx), fun b o h _ hb hx => ?_, fun _ _ _ _ _ => rfl, fun b o h hx => ?_, (fun _ _ z => nomatch z), (fun _ _ _ z => nomatch z), (fun _ _ z => nomatch z)⟩⟩
    · obtain ⟨sl, h2⟩ := un.slot b o h rfl hb hx
      exact ⟨sl, m.heap b _ (old b o h) h2⟩
    · obtain ⟨o2, h2⟩ := un.there b o h hx
      exact ⟨o2, m.heap b _ (old b o h) h2⟩
  · obtain ⟨t, a, names, tk, h1, h2, h3, h4, o, h5, h6⟩ := hv
    exact ⟨t, a, names, tk, h1, h2, h3, h4, o, m.heap t o h3 h5, h6⟩
  · intro i v s o Q E hi hP j st hS hk
    obtain ⟨a, names, hit, rfl⟩ := vals_at hlv hP
    have ha := hitem _ (List.mem_of_getElem? hit)
    have jI := j.inv I
    obtain ⟨oa, hoa⟩ : ∃ o, s0.heap.get? a = some o := by
      obtain ⟨_, _, _, _, e⟩ := I.hok a _ ha
      exact ⟨_, e⟩
    have hca : Hc H s0 items a = some (.frz oa (.lst (names.map V.str))) := by
      unfold Hc
      rw [ha, hoa]
      exact if_pos (List.mem_map_of_mem (f := (·.1)) (List.mem_of_getElem? hit))
    have hf' := j.2.2.keep f _ hf rfl hff (by simp)
    have hcd' : s.heap.CodeRec (.ref c') q := by
      obtain ⟨c2, oc, vs, t, e1, e2, e3, e4⟩ := hcd
      obtain rfl := Value.ref.inj e1
      exact ⟨c', oc, vs, t, rfl, j.2.2.keep c' _ e2 rfl hcf (by simp), e3, e4⟩
    have rc : codeAny (model X.prog X.w) X.A.in1 (.call (.ref f) ⟨[.ref a], []⟩) (CR (fun _ _ _ _ _ _ => False) X.stack X.prog X.w (Hc H s0 items) s (fun v H' => ∃ t, v = .ref t ∧ Hc H s0 items t = none ∧ H' t = some (.tup [.int (names.length : Int), .ref a])) (fun _ _ _ => False)) s := by
      refine run_lam (N := N) (ps := [p]) (us := [.ref a]) (vs := [.ref a]) S hf' hcd' (in1_room hr) (env_c I j) (hbind s _) (.cons rfl .nil) rfl fun hr' => ⟨tb, hbody _ _ _ _ _ hr', ?_⟩
      exact htb a names oa _ _ hca fun t H' h1 h2 => ⟨t, rfl, h1, h2⟩
    refine wpAny_call (codeAny_mono rc fun r s' hq => ?_)
    cases r with
    | error e => exact False.elim hq
    | ok fl =>
      cases fl with
      | next => exact False.elim hq
      | brk => exact False.elim hq
      | cont => exact False.elim hq
      | ret u =>
        obtain ⟨v, H', os, bare, un, hok, rv, t, rfl, hn, ht⟩ := hq
        obtain rfl : u = Value.ref t := rv
        have kp : ∀ {b o}, s.heap.get? b = some o → b ∉ frs X.stack → s'.heap.get? b = some o := fun {b o} h1 h2 => lam_kept I j un hok h1 h2
        have free : ∀ b o, s.heap.get? b = some o → Hc H s0 items b = none → b ≠ t := fun b o h1 h2 z => by
          have := un.free b o h1 h2 (by simp)
          rw [z, ht] at this
          cases this
        have hI : ∃ oi, s.heap.get? s0.heap.objs.size = some oi := by
          obtain ⟨oi, e, _⟩ := st.1
          exact ⟨oi, e⟩
        obtain ⟨oi, hoi⟩ := hI
        refine hk (.ref t) s' ⟨os.trans j.1, bare, ⟨fun b o h _ hb hx => kp (j.2.2.keep b o h rfl hb hx) hb, fun b o h _ hb hx => ?_, fun _ _ _ _ _ => rfl, fun b o h hx => ?_, (fun _ _ z => nomatch z), (fun _ _ _ z => nomatch z), (fun _ _ z => nomatch z)⟩⟩ ⟨?_, ?_⟩ (kp hS nS) ⟨t, a, names, ?_⟩ fun j2 k2 hv => ?_
        · obtain ⟨sl, h2⟩ := j.2.2.slot b o h rfl hb hx
          obtain ⟨sl2, h3⟩ := un.slot b _ h2 ((env_c (items := items) I j).frf b hb) hb hx
          exact ⟨sl2, h3⟩
        · obtain ⟨o2, h2⟩ := j.2.2.there b o h hx
          exact un.there b o2 h2 hx
        · obtain ⟨o2, e1, e2⟩ := st.1
          exact ⟨o2, kp e1 nI, e2⟩
        · obtain ⟨o2, e1, e2⟩ := st.2
          exact ⟨o2, kp e1 hlf, e2⟩
        · obtain ⟨_, us, r, o2, e1, e2⟩ := hok t _ ht
          cases r with
          | cons r1 rr =>
            cases rr with
            | cons r2 rr =>
              cases rr
              obtain ⟨tk, rfl⟩ := r1
              obtain rfl := r2
              refine ⟨tk, hit, rfl, fun z => ?_, fun z => ?_, o2, e1, e2⟩
              · rcases List.mem_cons.mp z with z | z
                · exact free _ _ hS (hc_new (new _ (by rw [es]; exact Nat.le_succ _))) z.symm
                · exact free _ _ hoi (hc_new (new _ (Nat.le_refl _))) (List.mem_singleton.mp z).symm
              · obtain ⟨o3, h3⟩ := fr_old jI z
                exact free t _ h3 ((env_c (items := items) I j).frf t z) rfl
        · obtain ⟨t2, a2, n2, tk2, h1, h2, h3, h4, o2, h5, h6⟩ := hv
          exact ⟨t2, a2, n2, tk2, h1, h2, h3, h4, o2, kp h5 h4, h6⟩
  · intro i j ki kj s Q E hj h1 h2 hq
    obtain ⟨t, a, n1, tk, e1, rfl, _, _, e2⟩ := h1
    obtain ⟨t2, a2, n2, tk2, f1, rfl, _, _, f2⟩ := h2
    obtain ⟨as, r1⟩ := reads_key I hj (hitem _ (List.mem_of_getElem? e1)) e2
    obtain ⟨bs, r2⟩ := reads_key I hj (hitem _ (List.mem_of_getElem? f1)) f2
    have hq : Q (.bool (dataLt (dKey (nmAt items i)) (dKey (nmAt items j)))) s := hq
    rw [nm_at e1, nm_at f1] at hq
    refine rcLt_alike (dKey n1) (dKey n2) X.A.in1 s (.ref t) (.ref t2) as bs r1 r2 (alike_key _ _) (fun z => by unfold dKey at z; cases z) ?_ X.prog X.w E Q hq
    have d := depth_key n1
    have u := hr.un
    have : X.A.in1.units = X.A.units + 1 := rfl
    have := Nat.min_le_left (dKey n1).depth (dKey n2).depth
    omega
end
end U
namespace U
open PySem PySem.Spec PyProof.Rows L2 PySem.W LamX
def tMinK (T : List (Addr × Str)) (te : TA) : TE := fun σ H Q => te σ H fun vs H1 => Tabs T H1 ∧ ∃ (l : Addr) (items : List (Addr × List Str)), vs = [.ref l] ∧ H1 l = some (.lst (items.map fun i => V.ref i.1)) ∧ (∀ i ∈ items, H1 i.1 = some (.lst (i.2.map V.str))) ∧
  ∀ H2, ExtN H1 H2 → Tabs T H2 → (items = [] → Q .non H2) ∧ ∀ i ∈ items, Q (.ref i.1) H2
theorem pe_minK {X : Cx} {T : List (Addr × Str)} {c P : Addr} {params : Arguments} {body : Expr} {scope : Scope} {N : List Str} {p : Str} {tb : TE} {k j : Nat} {e : Expr} {te : TA} {pm lpos kp1 kp2 cpos pos : Pos}
    (hc : X.calm = true) (hg : Gl X "min") (hm : X.mg "min" = none) (ha : PA X [e] te) (TB : TabB X.base X.mg c P) (hcode : X.env.code = .ref c) (hmT : (P, X.env.qual ++ "<lambda>") ∈ T) (huT : ∀ y ∈ T, y.1 = P → y.2 = X.env.qual ++ "<lambda>")
    (hdef : defaultsOf params X.env = ([], [])) (hfree : ∀ y ∈ scope.names, y.2 = .free → ∃ c, X.env.cells.lookup y.1 = some c) (hcl : cloFrom X.env.cells scope.names [] = [])
    (hr : Room (k + 2) X.A) (S : FnScope N [p] scope)
    (hbind : ∀ (s : Shared) (u pm ctv : Value) (c' : Addr), BindsTo s (lamFn (X.env.qual ++ "<lambda>") params body scope pm c' ctv) ⟨[u], []⟩ [(p, u)])
    (hbody : ∀ (A : Around) (outer : List Env) (s : Shared) (H : Hp) (E : XK) (f c' : Addr), Room k (A.deeper (envOfC (X.env.qual ++ "<lambda>") scope s.heap.objs.size f (.ref c'))) → PE (cxOf (fun _ _ _ _ _ _ => False) X.prog X.w X.K X.mg X.base N (X.env.qual ++ "<lambda>") scope f (.ref c') A outer s H E) body tb)
    (htb : ∀ (a : Addr) (names : List Str) (o : Obj) (H : Hp) (Q : VK), H a = some (.frz o (.lst (names.map V.str))) → (∀ t H', H t = none → H' t = some (.tup [.int (names.length : Int), .ref a]) → Q (.ref t) H') → tb (L2.start N [.ref a]) H Q)
    (hst : starEach [e] X.env = (false, eval e X.env) :: starEach [] X.env := by rfl) :
    PE X (.Call (.Name "min" pm) [e] [⟨some "key", .Lambda params body scope lpos, kp1⟩, ⟨some "default", .Constant .none j cpos, kp2⟩] pos) (tMinK T te) := by
  refine ⟨fun pins s σ H Q I h => ?_⟩
  refine wpAny_Call_Name_kw (ld_blt (u := .builtin "min") I hg hm (by decide +kernel) ?_)
  refine PyProof.Rows.callWith_kw (thn (ha.run pos pins s σ H _ I h) fun us s1 ⟨vs, H1, I1, r1, hT, l, items, ev, hl, hit, q⟩ => ?_) (by rw [hst]; rfl) (by rw [hst]; rfl)
  subst ev
  obtain ⟨u, rfl, ru⟩ := r1.one
  obtain rfl : u = Value.ref l := ru
  show wpAny _ _ (evalAll [(do let v ← eval (.Lambda params body scope lpos) X.env; standAt pos; pure v), (do let v ← eval (.Constant .none j cpos) X.env; standAt pos; pure v)]) _ _ s1
  refine wpAny_evalAll_cons (wpAny_bind (lam_make2 I1 TB hcode hmT huT hT hdef hfree fun f c' pm' ctv H2 s2 I2 eN T2 hf hfn hfr hco => wpAny_bind (wpAny_standAt (wpAny_pure ?_))))
  refine wpAny_evalAll_cons (wpAny_bind (show wpAny _ _ (eval (.Constant .none j cpos) X.env) _ _ s2 from wpAny_pure (wpAny_bind (wpAny_standAt (wpAny_pure (wpAny_evalAll_nil ?_))))))
  show wpAny _ _ (call (.builtin "min") [.ref l] [(Str.ofString "key", .ref f), (Str.ofString "default", .none)]) _ _ s2
  have nt : ∀ (xs : List V) (ps : Array Value), HO.lst xs ≠ .tbl ps := fun _ _ z => nomatch z
  have hl2 := eN _ _ hl (nt _)
  have hit2 : ∀ i ∈ items, H2 i.1 = some (.lst (i.2.map V.str)) := fun i hi => eN _ _ (hit i hi) (nt _)
  have frf := I2.env0.frf
  obtain ⟨_, its, n, rv, el⟩ := I2.hok l _ hl2
  obtain ⟨⟨oc, cvs, ct, d1, d2, d3⟩, _, _⟩ := I2.hok c' _ hco
  rw [hcl] at hf
  obtain ⟨q0, q1⟩ := q H2 eN T2
  have hlen : items.length = its.length := by
    have := rv.length
    rw [List.length_map] at this
    exact this
  refine PySem.call_min_walkKD (iter_listW (A := X.A.in1) (I2.ok.hd hc) ⟨_, el, rfl, n, rfl⟩ fun s3 e3 W st hfp hw hk => ?_)
  have es : s3.heap.objs.size = s2.heap.objs.size + 1 := by
    rw [e3]
    exact Heap.size_push _ _
  refine ⟨_, _, _, _, _, _, _, _, _, _, rfl, W, st, hfp, key_run I2 hr S hit2 rv ⟨_, el, rfl, n, rfl⟩ (fun z => by rw [frf _ z] at hl2; cases hl2) hf hfr ⟨c', oc, cvs, ct, rfl, d1, d2, d3⟩ (fun z => by rw [frf _ z] at hco; cases hco) (fun s u => hbind s u _ _ _) (fun A outer s H E hr => hbody A outer s H E f c' hr) htb es, ?_, ?_, ?_⟩
  · refine ⟨by rw [e3], by rw [e3]; exact I2.bare, ?_⟩
    exact Un.kept hk
  · intro hn s' hj
    refine ⟨.non, H2, hj.inv I2, rfl, q0 ?_⟩
    have : its.length = 0 := by simpa using hn
    exact List.eq_nil_of_length_eq_zero (by omega)
  · intro hn v s' hP hj
    obtain ⟨a, names, e1, rfl⟩ := vals_at rv hP
    exact ⟨.ref a, H2, hj.inv I2, rfl, q1 _ (List.mem_of_getElem? e1)⟩
end U

/-! a def whose code object is known (its table of lambdas is tracked) -/
namespace U
open PySem PySem.Spec PyProof.Rows L2 LamX
structure FunC (K : PySem.W.Frag) (x qual : Str) (st : Stmt) (f : Addr) (fd : FuncData) (c : Addr) : Prop where
  ex : ∃ (oc : Value) (od : Option Addr) (kV doc pm : Value) (an : Option Addr) (ct : Value) (osl : Array (Option Value)),
    fd = PySem.W.fnOf x qual (defArgs st) (defBody st) (defScope st) .none kV doc pm an (.ref c) ct ∧ K.lookup f = some ⟨oc, od, .func fd, osl⟩ ∧ PySem.W.codeIn K (.ref c) qual = true
section
variable {P : Program} {w : World} {K : PySem.W.Frag} {mg : Str → Option Value} {base : Heap}
theorem fnG0C {x qual : Str} {st : Stmt} {f c : Addr} {fd : FuncData} {N ps : List Str} {k : Nat} {sp : Sp} (F : FunC K x qual st f fd c) (S : FnScope N ps (defScope st)) (len : ∀ vs H Q E, sp vs H Q E → vs.length = ps.length)
    (body : ∀ (A : Around) (outer : List Env) (s : Shared) (H : Hp) (vs : List V) (Q : VK) (E : XK), Rm k (A.deeper (envOfC qual (defScope st) s.heap.objs.size f (.ref c))) → sp vs H Q E →
      ∃ t, PSs (cxOf CX0 P w K mg base N qual (defScope st) f (.ref c) A outer s H E).nox (defBody st) t ∧ t { nx := fun _ H' => Q .non H', rt := Q } (start N vs) H) :
    FnG P w K mg base CX0 (k + 1) f fd ps sp := by
  obtain ⟨oc, od, kV, doc, pm, an, ct, osl, rfl, lk, hcd⟩ := F.ex
  refine ⟨len, fun A outer s H args us vs Q E room e0 bd rel want => ?_⟩
  have count := len _ _ _ _ want
  have kin : K.In s.heap := e0.mod.kin.keeps fun b o e => (e0.bs b o e).1
  have kinds : ∀ y ∈ ps.zip us, (defScope st).names.lookup y.1 = some .local ∨ ((defScope st).names.lookup y.1 = some .cell ∧ ((cellsFrom (s.heap.objs.size + 1) (defScope st).names []).lookup y.1).isSome = true) := by
    rintro ⟨n, v⟩ hy
    cases S.par n (List.of_mem_zip hy).1 with
    | inl q => exact .inl q
    | inr q => exact .inr ⟨q, PySem.W.cellsFrom_some _ _ _ (.inl q)⟩
  apply codeAny_call_function room.r.depth (kin _ _ lk) rfl S.co S.gen rfl (PySem.W.codeRec_of kin hcd) (bd _ _ _ _ _)
  apply wpAny_newFunctionEnv_cells S.kind kinds
  intro env he s1 x
  subst he
  have lim : s.heap.NoLimit := e0.mod.nolimit.keeps fun b o e => (e0.bs b o e).1
  refine ⟨lim.keeps x.toInCall.keep, codeAny_func ?_⟩
  obtain ⟨t, ht0, want'⟩ := body A outer s H vs Q E (room.deeper _) want
  have ht := ht0.nox
  have I := inv_start (CX := CX0) (P := P) (w := w) (K := K) (mg := mg) (base := base) (E := E) S room.r.hd e0 count rel x
  refine wpAny_mono (ht.run [] s1 (start N vs) H _ I want') ?_ fun e s' hs => hs
  intro fl s' hs
  cases fl with
  | ret u =>
    obtain ⟨v, σ', H', J, rv, q⟩ := hs
    exact ⟨v, H', J.os, J.bare, J.base, J.hok, rv, q⟩
  | next =>
    obtain ⟨σ', H', J, q⟩ := hs
    exact ⟨V.non, H', J.os, J.bare, J.base, J.hok, rfl, q⟩
  | brk => exact hs.elim fun _ z => z.elim fun _ z => z.2.elim
  | cont => exact hs.elim fun _ z => z.elim fun _ z => z.2.elim
end
end U

/-! smallest_path -/
namespace Law
open PySem PySem.Spec PyProof.Rows L2 U LamX


theorem rd_minK {T : List (Addr × Str)} {te : TA} {σ : L2.St} {H : Hp} {Q : VK} (h : te σ H fun vs H1 => Tabs T H1 ∧ ∃ (l : Addr) (items : List (Addr × List Str)), vs = [.ref l] ∧ H1 l = some (.lst (items.map fun i => V.ref i.1)) ∧ (∀ i ∈ items, H1 i.1 = some (.lst (i.2.map V.str))) ∧
  ∀ H2, ExtN H1 H2 → Tabs T H2 → (items = [] → Q .non H2) ∧ ∀ i ∈ items, Q (.ref i.1) H2) : tMinK T te σ H Q := h
def spSmall (T : List (Addr × Str)) : Sp := fun vs H Q _ => ∃ (l : Addr) (items : List (Addr × List Str)), vs = [.ref l] ∧ Tabs T H ∧ H l = some (.lst (items.map fun i => V.ref i.1)) ∧ (∀ i ∈ items, H i.1 = some (.lst (i.2.map V.str))) ∧
  ∀ (v : V) (H' : Hp), ExtN H H' → Tabs T H' → (v = .non ↔ items = []) → (v = .non ∨ ∃ i ∈ items, v = .ref i.1) → Q v H'
/-- the lambda's text -/
def lamScope : Scope := { kind := .function, names := [("path", .local), ("len", .globalImplicit)], isGenerator := false, isCoroutine := false }
abbrev lamBody : Expr := .Tuple [.Call (.Name "len" ⟨78, 40, 78, 43⟩) [.Name "path" ⟨78, 44, 78, 48⟩] [] ⟨78, 40, 78, 49⟩, .Name "path" ⟨78, 51, 78, 55⟩] 0 ⟨78, 39, 78, 56⟩
theorem lamS : FnScope ["path"] ["path"] lamScope := ⟨rfl, rfl, rfl, by decide +kernel, rfl, by decide +kernel, by decide +kernel⟩
section
variable {P : Program} {w : World} {K : PySem.W.Frag} {mg : Str → Option Value} {base : Heap}
theorem ok_small {f : Addr} {fd : FuncData} {c Pt : Addr} {T : List (Addr × Str)} (F : FunC K "smallest_path" "smallest_path" s_smallest_path f fd c) (hmin : mg "min" = none) (hlen : mg "len" = none) (TB : TabB base mg c Pt) (hT : (Pt, ("smallest_path" : Str) ++ ".<locals>." ++ "<lambda>") ∈ T) (hu : ∀ y ∈ T, y.1 = Pt → y.2 = ("smallest_path" : Str) ++ ".<locals>." ++ "<lambda>") : FnG P w K mg base CX0 3 f fd ["paths"] (spSmall T) := by
  refine fnG0C F sc_smallest_path (fun vs H Q E h => ?_) (fun A outer s H vs Q E hr h => ?_)
  · obtain ⟨l, items, rfl, _⟩ := h
    rfl
  · obtain ⟨l, items, rfl, hTab, hl, hit, q⟩ := h
    have nd := sc_smallest_path.nd
    have nd1 : ([("path" : Str)] : List Str).Nodup := by decide
    have body : ∀ (A : Around) (outer : List Env) (s : Shared) (H : Hp) (E : XK) (f c' : Addr), Room 0 (A.deeper (envOfC (("smallest_path" : Str) ++ ".<locals>." ++ "<lambda>") lamScope s.heap.objs.size f (.ref c'))) →
        PE (cxOf (fun _ _ _ _ _ _ => False) P w K mg base ["path"] (("smallest_path" : Str) ++ ".<locals>." ++ "<lambda>") lamScope f (.ref c') A outer s H E) lamBody (tTup (tCons (tCB (rLenU K) (tCons (tVar 0) tNil)) (tCons (tVar 0) tNil))) := fun A outer s H E f c' hr2 => by
      have nd := nd1
      exact pe_tup (pa_cons (pe_callB (kLen K rfl) (by rfl) hlen bb_len (pa_cons (pv 0) pa_nil)) (pa_cons (pv 0) pa_nil))
    refine ⟨_, pss_one (ps_ret (pe_minK (T := T) (c := c) (P := Pt) (k := 0) (N := ["path"]) (p := "path") rfl rfl hmin (pa_cons (pv 0) pa_nil) TB rfl hT hu rfl (fun y hy e => ?_) rfl (hr.r.mono (by decide)) lamS (fun s u pm ctv c' => .of_eq rfl) body ?_)), ?_⟩
    · have : ∀ y ∈ lamScope.names, y.2 ≠ .free := by decide
      exact absurd e (this y hy)
    · intro a names o H' Q' ha hq
      wtm_at "rd"
      refine rd_lenL (K := K) (xs := names.map V.str) (.inl (.inr ⟨o, ha⟩)) ?_
      rw [List.length_map]
      wtm_at "rd"
      intro t ft
      exact hq t _ ft upd_same
    · wtm_at "rd"
      refine rd_minK ?_
      wtm_at "rd"
      refine ⟨hTab, l, items, rfl, hl, hit, fun H2 e2 t2 => ⟨fun e => ?_, fun i hi => ?_⟩⟩
      · exact q .non H2 e2 t2 ⟨fun _ => e, fun _ => rfl⟩ (.inl rfl)
      · exact q (.ref i.1) H2 e2 t2 ⟨(fun z => nomatch z), (fun z => by rw [z] at hi; cases hi)⟩ (.inr ⟨i, hi, rfl⟩)
end
end Law

/-! paths of one slope; certificates -/
namespace U
open PySem PySem.Spec PyProof.Rows L2
def SlP (es : List (Str × Str)) (f : Str → Int) (dir : Int) : List Str → Prop
  | a :: b :: r => Adj es a b ∧ slp f a b = dir ∧ SlP es f dir (b :: r)
  | _ => True
section
variable {ns : List Str} {es : List (Str × Str)} {f : Str → Int} {dir : Int}
theorem SlP.join : ∀ {p r : List Str} {x : Str}, p.getLast? = some x → SlP es f dir p → SlP es f dir (x :: r) → SlP es f dir (p ++ r)
  | [], _, _, h, _, _ => nomatch h
  | [a], r, x, h, _, k => by
    have e : a = x := by simpa using h
    subst e
    exact k
  | a :: b :: q, r, x, h, w, k => by
    have h' : (b :: q).getLast? = some x := by rw [List.getLast?_cons_cons] at h; exact h
    exact ⟨w.1, w.2.1, SlP.join h' w.2.2 k⟩
theorem SlP.snoc {p : List Str} {x b : Str} (h : p.getLast? = some x) (w : SlP es f dir p) (a : Adj es x b) (e : slp f x b = dir) : SlP es f dir (p ++ [b]) := w.join h ⟨a, e, trivial⟩
theorem SlP.tail {a : Str} {p : List Str} (w : SlP es f dir (a :: p)) : SlP es f dir p := by
  cases p with
  | nil => trivial
  | cons b r => exact w.2.2
theorem SlP.left : ∀ {p r : List Str}, SlP es f dir (p ++ r) → SlP es f dir p
  | [], _, _ => trivial
  | [a], _, _ => trivial
  | a :: b :: q, r, w => ⟨w.1, w.2.1, SlP.left (p := b :: q) w.2.2⟩
theorem SlP.wk : ∀ {p : List Str}, SlP es f dir p → Wk es p
  | [], _ => trivial
  | [a], _ => trivial
  | a :: b :: q, w => ⟨w.1, SlP.wk w.2.2⟩
theorem SlP.at : ∀ {p : List Str}, SlP es f dir p → ∀ i (h : i + 1 < p.length), Adj es p[i] p[i + 1] ∧ slp f p[i] p[i + 1] = dir
  | a :: b :: q, w, 0, _ => ⟨w.1, w.2.1⟩
  | a :: b :: q, w, i + 1, h => SlP.at (p := b :: q) w.2.2 i (by simpa using h)
theorem SlP.of : ∀ {p : List Str}, (∀ i (h : i + 1 < p.length), Adj es p[i] p[i + 1] ∧ slp f p[i] p[i + 1] = dir) → SlP es f dir p
  | [], _ => trivial
  | [a], _ => trivial
  | a :: b :: q, h => ⟨(h 0 (by simp)).1, (h 0 (by simp)).2, SlP.of fun i hi => h (i + 1) (by simpa using hi)⟩
theorem PathTo.slp {x y : Str} {p : List Str} (h : PathTo (nbS es) (slOk f dir) x y p) : SlP es f dir p ∧ p.head? = some x ∧ p.getLast? = some y := by
  induction h with
  | one => exact ⟨trivial, rfl, rfl⟩
  | @snoc a b p q m o ih =>
    obtain ⟨i1, i2, i3⟩ := ih
    refine ⟨i1.snoc i3 (nbS_mem.mp m) (of_decide_eq_true o), ?_, ?_⟩
    · cases p with
      | nil => cases i2
      | cons c r => exact i2
    · simp only [List.getLast?_append, List.getLast?_singleton, Option.some_or]
/-- a rising cycle from x -/
structure CycL (ns : List Str) (es : List (Str × Str)) (f : Str → Int) (x : Str) (c : List Str) : Prop where
  sl : SlP es f 1 c
  hd : c.head? = some x
  la : c.getLast? = some x
  l2 : 2 ≤ c.length
  ln : c.length ≤ ns.length + 2
  in_ : ∀ y ∈ c, y ∈ ns
theorem sl_paths (ok : GrOk ns es) (l : ns.length ≤ 1000) {x : Str} (hx : x ∈ ns) {c : Str × List Str} (h : c ∈ pathsF (nbS es) (slOk f dir) x) : PathTo (nbS es) (slOk f dir) x c.1 c.2 ∧ c.2.length ≤ ns.length + 1 ∧ ∀ y ∈ c.2, y ∈ ns := by
  have cl : ∀ a ∈ ns, ∀ b ∈ nbS es a, b ∈ ns := fun a _ b hb => nbS_in ok hb
  have e := stF_done (adj := nbS es) (ok := slOk f dir) (root := x) (i := ns.length) (stF_len cl hx ns.length) l
  rw [← e] at h
  have p := stF_path _ _ h
  refine ⟨p, stF_plen _ _ h, ?_⟩
  generalize c.2 = q at p
  generalize c.1 = z at p
  clear h e
  induction p with
  | one => intro y hy; rw [List.mem_singleton.mp hy]; exact hx
  | @snoc a b p q m o ih =>
    intro y hy
    rcases List.mem_append.mp hy with hy | hy
    · exact ih y hy
    · rw [List.mem_singleton.mp hy]
      exact nbS_in ok m
end
end U

/-! cycle_at, cycle_nodes, find_anchors -/
namespace Law
open PySem PySem.Spec PyProof.Rows L2 U LamX


theorem ExtN.li {H H' : Hp} (e : ExtN H H') {a : Addr} {xs : List V} (h : H a = some (.lst xs)) : H' a = some (.lst xs) := e _ _ h fun _ z => nomatch z
theorem ExtN.tu {H H' : Hp} (e : ExtN H H') {a : Addr} {xs : List V} (h : H a = some (.tup xs)) : H' a = some (.tup xs) := e _ _ h fun _ z => nomatch z
theorem ExtN.dk {H H' : Hp} (e : ExtN H H') {a : Addr} {xs : List (Key × V)} (h : H a = some (.dK xs)) : H' a = some (.dK xs) := e _ _ h fun _ z => nomatch z
theorem GSt.ext {H H' : Hp} {g n e st : Addr} {ns ord : List Str} {es : List (Addr × Str × Str)} {f : Str → Int} (h : GSt H g n e st ns ord es f) (x : ExtN H H') : GSt H' g n e st ns ord es f :=
  ⟨⟨ExtN.tu x h.gr.top, ExtN.tu x h.gr.nodes, ExtN.tu x h.gr.edges, fun y hy => ExtN.tu x (h.gr.pairs y hy)⟩, h.ok, h.pm, h.l2, h.l3, ExtN.dk x h.st, h.tri, h.pro⟩
def spCycAt (T : List (Addr × Str)) : Sp := fun vs H Q _ => ∃ (g n e st : Addr) (x : Str) (ns ord : List Str) (es : List (Addr × Str × Str)) (f : Str → Int), vs = [.ref g, .ref st, .str x] ∧ GSt H g n e st ns ord es f ∧ x ∈ ns ∧ Tabs T H ∧
  ∀ (v : V) (H' : Hp), ExtN H H' → Tabs T H' → (v = .non ↔ ¬ Cyc (es.map (·.2)) f x) → (v = .non ∨ ∃ a c, v = .ref a ∧ H' a = some (.lst (c.map V.str)) ∧ CycL ns (es.map (·.2)) f x c) → Q v H'
section
variable {P : Program} {w : World} {K : PySem.W.Frag} {mg : Str → Option Value} {base : Heap}
structure Y6c (P : Program) (w : World) (K : PySem.W.Frag) (mg : Str → Option Value) (base : Heap) (T : List (Addr × Str)) : Prop where
  adjacency : Cal P w K mg base CX0 1 "adjacency" spAdj
  slope : Cal P w K mg base CX0 1 "slope" spSlope
  sloped_paths : Cal P w K mg base CX0 2 "sloped_paths" spSloped
  smallest_path : Cal P w K mg base CX0 3 "smallest_path" (spSmall T)
  UP : ∃ u, mg "UP" = some u ∧ RelV (.int 1) u
theorem ok_cycle_at {f : Addr} {fd : FuncData} {T : List (Addr × Str)} (F : Fun K "cycle_at" "cycle_at" s_cycle_at f fd) (B : Bt mg) (C : Y6c P w K mg base T) : FnG P w K mg base CX0 4 f fd ["graph", "state", "node"] (spCycAt T) := by
  refine fnG0 F sc_cycle_at (fun vs H Q E h => ?_) (fun cdv A outer s H vs Q E hr h => ?_)
  · obtain ⟨g, n, e, st, x, ns, ord, es, f, rfl, _⟩ := h
    rfl
  · obtain ⟨g, n, e, st, x, ns, ord, es, f, rfl, gs, hx, tabs, q⟩ := h
    have nd := sc_cycle_at.nd
    have hu := hr.u1
    refine ⟨_, (pss_cons (ps_set (i := 3) nd rfl (by first | exact Or.inl rfl | exact Or.inr rfl) (pe_c C.sloped_paths hr (by decide) rfl (pa_cons (pv 0) (pa_cons (pv 1) (pa_cons (pv 2) (pa_cons (pe_gl rfl C.UP) pa_nil))))))
  (pss_cons (ps_setLc (i := 4) (own := [("one", 5)]) rfl nd rfl rfl (sw_true rfl rfl rfl (by decide +kernel)) (ki_list K rfl (pe_dget hu (pe_c C.adjacency hr (by decide) rfl (pa_cons (pv 0) pa_nil)) (pv 2) (fun _ _ => rfl))) (blkOk_by (own := [("one", 5)]) (N := nN_cycle_at) (sc := defScope s_cycle_at) (by decide +kernel)) (fun _ _ _ _ _ => (pg_name (i := 5) nd rfl (by first | exact Or.inl rfl | exact Or.inr rfl))) (fun _ _ _ _ _ => (pts_one (PW.pt (pw_and (pt_cmp (pc_din hu (pv 5) (pv 3))) (pw_and1 (pt_cmpR (kEq K rfl hr.u64) (pe_c C.slope hr (by decide) rfl (pa_cons (pv 1) (pa_cons (pv 5) (pa_cons (pv 2) pa_nil)))) (pe_gl rfl C.UP) (nomark _))))))) (fun _ _ _ _ _ => (pv 5)))
  (pss_one (ps_ret (pe_c C.smallest_path hr (by decide) rfl (pa_cons (pe_lc (own := [("one", 5)]) rfl nd (ki_list K rfl (pv 4)) (blkOk_by (own := [("one", 5)]) (N := nN_cycle_at) (sc := defScope s_cycle_at) (by decide +kernel)) (fun _ _ _ _ _ => (pg_name (i := 5) nd rfl (by first | exact Or.inl rfl | exact Or.inr rfl))) (fun _ _ _ _ _ => pts_nil) (fun _ _ _ _ _ => (pe_op (kAdd K rfl) (pe_dget hu (pv 3) (pv 5) (fun _ _ => rfl)) (pe_lst (pa_cons (pv 2) pa_nil))))) pa_nil)))))), ?_⟩
    wtm_at "rd"
    refine ⟨g, n, e, st, x, 1, ns, ord, es, f, rfl, gs, hx, fun d A H1 s1 fd fA pa => ?_⟩
    have gs1 := gs.same s1
    wtm_at "rd"
    refine ⟨g, n, e, ns, es, rfl, gs1.grs, fun ad Ad H2 s2 _ had => ?_⟩
    have gs2 := gs1.same s2
    have pa2 := pa.same s2
    wtm_at "rd"
    refine rd_dat (.inl had.di) (kvG_val hx) rfl ?_
    have hos := had.at gs.ok hx
    have cl : ∀ a ∈ ns, ∀ b ∈ nbS (es.map (·.2)) a, b ∈ ns := fun a _ b hb => nbS_in gs.ok hb
    have l1 : ns.length ≤ 1000 := by have := gs.l2; omega
    have kin : ∀ y, y ∈ keysF (slF (es.map (·.2)) f 1 x) ↔ Rr (es.map (·.2)) f 1 x y := fun y => ⟨fun h => stF_reach h, fun h => stF_all (i := 1000) (by have := stF_len (ok := slOk f 1) cl hx 1000; omega) h⟩
    have slp_ : ∀ c ∈ slF (es.map (·.2)) f 1 x, PathTo (nbS (es.map (·.2))) (slOk f 1) x c.1 c.2 ∧ c.2.length ≤ ns.length + 1 ∧ ∀ y ∈ c.2, y ∈ ns := fun c hc => sl_paths gs.ok l1 hx hc
    have slq : ∀ c ∈ slF (es.map (·.2)) f 1 x, SlP (es.map (·.2)) f 1 c.2 ∧ c.2.head? = some x ∧ c.2.getLast? = some c.1 ∧ c.2.length ≤ ns.length + 1 ∧ ∀ y ∈ c.2, y ∈ ns := fun c hc => ⟨(slp_ c hc).1.slp.1, (slp_ c hc).1.slp.2.1, (slp_ c hc).1.slp.2.2, (slp_ c hc).2⟩
    clear slp_
    have plen : ∀ c ∈ slF (es.map (·.2)) f 1 x, c.2.length ≤ 1001 := fun c hc => stF_plen 1000 c hc
    have osa : ∀ o, o ∈ nbS (es.map (·.2)) x ↔ Adj (es.map (·.2)) x o := fun o => nbS_mem
    have osl : (nbS (es.map (·.2)) x).length ≤ 2000 := by
      unfold nbS
      rw [(sortS_perm _).length_eq]
      have := nbrF_len (x := x) (es := es.map (·.2))
      rw [List.length_map] at this
      have := gs.l3
      omega
    generalize nbS (es.map (·.2)) x = os at *
    generalize slF (es.map (·.2)) f 1 x = kp at *
    have s02 := s1.trans s2
    refine rd_forL (SqL.of hos) ?_
    intro D fD
    refine lcL (K := K) (xs := os.map V.str) (fun j H' => Same H2 H' ∧ H' D = some (.lst (((os.take j).filter fun o => decide (o ∈ keysF kp) && decide (slp f o x = 1)).map V.str))) ⟨Same.new fD, upd_same⟩ ?_ ?_ ?_
    · rintro j H' hj ⟨sb, _⟩
      exact SqL.of (sb _ _ hos)
    · rintro j y H' hy ⟨sb, hD⟩
      obtain ⟨hj, rfl⟩ := map_at hy
      have tk := take_snoc hj
      have hom := (adj_in gs.eok ((osa _).mp (List.getElem_mem hj))).2.1
      have lt : ((os.take j).filter fun o => decide (o ∈ keysF kp) && decide (slp f o x = 1)).length ≤ 2000 := Nat.le_trans (List.length_filter_le _ _) (by rw [List.length_take]; omega)
      rw [tk, List.filter_append, List.map_append]
      generalize os[j] = o at *
      wtm_at "rd"
      refine rd_din1 (.inl (sb _ _ pa2.di)) (k := .inr o) rfl ?_
      by_cases mo : o ∈ keysF kp
      · rw [kvG_val mo]
        refine rd_bl ?_
        refine rd_T ?_
        wtm_at "rd"
        refine ⟨st, o, x, ord, f, rfl, .inl (sb _ _ gs2.st), gs.inO _ hom, gs.inO _ hx, ?_⟩
        wtm_at "rd"
        refine rd_split (fun c1 => ?_) (fun c1 => ?_)
        · wtm_at "rd"
          refine rd_acc hD (by rw [List.length_map]; omega) ?_
          refine ⟨same_put sb fD, ?_⟩
          rw [upd_same, List.filter_cons, if_pos (by rw [decide_eq_true mo, decide_eq_true c1]; rfl)]
          rfl
        · refine ⟨sb, ?_⟩
          rw [List.filter_cons, if_neg (by rw [decide_eq_false c1, Bool.and_false]; exact Bool.false_ne_true), List.filter_nil, List.map_nil, List.append_nil]
          exact hD
      · rw [kvG_none mo]
        wtm_at "rd"
        refine ⟨sb, ?_⟩
        rw [List.filter_cons, if_neg (by rw [decide_eq_false mo]; exact Bool.false_ne_true), List.filter_nil, List.map_nil, List.append_nil]
        exact hD
    rintro H3 ⟨s3, hD3⟩
    rw [List.length_map, List.take_length] at hD3
    have fD0 := new_of_same s02 fD
    have enm : ∀ o, o ∈ (os.filter fun o => decide (o ∈ keysF kp) && decide (slp f o x = 1)) ↔ Adj (es.map (·.2)) o x ∧ slp f o x = 1 ∧ Rr (es.map (·.2)) f 1 x o := fun o => by
      rw [List.mem_filter, Bool.and_eq_true, decide_eq_true_iff, decide_eq_true_iff, kin, osa]
      exact ⟨fun ⟨a, b, c⟩ => ⟨a.symm, c, b⟩, fun ⟨a, b, c⟩ => ⟨a.symm, c, b⟩⟩
    have enl : (os.filter fun o => decide (o ∈ keysF kp) && decide (slp f o x = 1)).length ≤ 2000 := Nat.le_trans (List.length_filter_le _ _) osl
    generalize (os.filter fun o => decide (o ∈ keysF kp) && decide (slp f o x = 1)) = en at *
    have s03 := s02.trans s3
    have pa3 := pa2.same s3
    wtm_at "rd"
    refine rd_forL (SqL.of hD3) ?_
    intro D2 fD2
    refine lcL (K := K) (xs := en.map V.str) (fun j H' => ∃ items : List (Addr × List Str), Same H3 H' ∧ H' D2 = some (.lst (items.map fun i => V.ref i.1)) ∧ (∀ i ∈ items, H' i.1 = some (.lst (i.2.map V.str)) ∧ i.1 ≠ D2) ∧ items.length = j ∧ ∀ i ∈ items, CycL ns (es.map (·.2)) f x i.2) ⟨[], Same.new fD2, upd_same, (fun i h => nomatch h), rfl, fun i h => nomatch h⟩ ?_ ?_ ?_
    · rintro j H' hj ⟨items, sb, _⟩
      exact SqL.of (sb _ _ hD3)
    · rintro j y H' hy ⟨items, sb, hD, hit, il, icy⟩
      obtain ⟨hj, rfl⟩ := map_at hy
      have m := (kin _).mpr ((enm _).mp (List.getElem_mem hj)).2.2
      obtain ⟨e1, e2, _⟩ := (enm _).mp (List.getElem_mem hj)
      generalize en[j] = o at *
      obtain ⟨pth, h1, h2⟩ := lookup_some m
      have hp := sb _ _ (pa3.li _ h2)
      have pl := plen _ h2
      obtain ⟨q1, q2, q3, q4, q5⟩ := slq _ h2
      have cyc : CycL ns (es.map (·.2)) f x (pth ++ [x]) := by
        have pp : 0 < pth.length := by
          cases pth with
          | nil => cases q3
          | cons _ _ => simp
        refine ⟨q1.snoc q3 e1 e2, ?_, ?_, by rw [List.length_append, List.length_singleton]; omega, by rw [List.length_append, List.length_singleton]; dsimp only at q4; omega, fun y hy => ?_⟩
        · cases pth with
          | nil => cases q3
          | cons a r => exact q2
        · simp only [List.getLast?_append, List.getLast?_singleton, Option.some_or]
        · rcases List.mem_append.mp hy with hy | hy
          · exact q5 y hy
          · rw [List.mem_singleton.mp hy]
            exact hx
      wtm_at "rd"
      refine rd_dat (.inl (sb _ _ pa3.di)) (kvG_val m) rfl ?_
      wtm_at "rd"
      intro t1 ft1
      refine rd_catL (at_upd (ne_of_none hp ft1) hp) upd_same (by rw [List.length_map]; simp only [List.length_singleton] at *; omega) ?_
      intro t2 ft2
      have sT := same_add (o := .lst (pth.map V.str ++ [.str x])) (same_add (o := .lst [.str x]) sb ft1) ft2
      have hDT := at_upd (o := .lst (pth.map V.str ++ [.str x])) (ne_of_none (at_upd (o := .lst [.str x]) (ne_of_none hD ft1) hD) ft2) (at_upd (o := .lst [.str x]) (ne_of_none hD ft1) hD)
      have hitT : ∀ i ∈ items, (upd (upd H' t1 (.lst [.str x])) t2 (.lst (pth.map V.str ++ [.str x]))) i.1 = some (.lst (i.2.map V.str)) ∧ i.1 ≠ D2 := fun i hi => by
        have a := at_upd (o := .lst [.str x]) (ne_of_none (hit i hi).1 ft1) (hit i hi).1
        exact ⟨at_upd (ne_of_none a ft2) a, (hit i hi).2⟩
      have nt2 : t2 ≠ D2 := Ne.symm (ne_of_none (at_upd (o := .lst [.str x]) (ne_of_none hD ft1) hD) ft2)
      have ht2 : (upd (upd H' t1 (.lst [.str x])) t2 (.lst (pth.map V.str ++ [.str x]))) t2 = some (.lst ((pth ++ [x]).map V.str)) := by
        rw [upd_same, List.map_append]
        rfl
      generalize upd (upd H' t1 (.lst [.str x])) t2 (.lst (pth.map V.str ++ [.str x])) = HT at sT hDT hitT ht2
      refine rd_acc hDT (by rw [List.length_map]; omega) ?_
      refine ⟨items ++ [(t2, pth ++ [x])], same_put sT fD2, by rw [upd_same, List.map_append]; rfl, fun i hi => ?_, by rw [List.length_append, il]; rfl, fun i hi => ?_⟩
      · rcases List.mem_append.mp hi with hi | hi
        · exact ⟨at_upd (hitT i hi).2 (hitT i hi).1, (hitT i hi).2⟩
        · rw [List.mem_singleton] at hi
          subst hi
          exact ⟨at_upd nt2 ht2, nt2⟩
      · rcases List.mem_append.mp hi with hi | hi
        · exact icy i hi
        · rw [List.mem_singleton] at hi
          subst hi
          exact cyc
    rintro H4 ⟨items, s4, hD4, hit4, il, icy⟩
    rw [List.length_map] at il
    have s04 := s03.trans s4
    refine ⟨D2, items, rfl, tabs.ext fun b o h => s04 b o h, hD4, fun i hi => (hit4 i hi).1, fun v H5 e5 t5 i1 i2 => q v H5 ((ExtN.of fun b o h => s04 b o h).trans e5) t5 ?_ ?_⟩
    rotate_left
    · rcases i2 with i2 | ⟨i, hi, e⟩
      · exact .inl i2
      · exact .inr ⟨i.1, i.2, e, ExtN.li e5 (hit4 i hi).1, icy i hi⟩
    rw [i1]
    constructor
    · rintro rfl ⟨y, y1, y2, y3⟩
      have := (enm y).mpr ⟨y1, y2, y3⟩
      cases en with
      | nil => cases this
      | cons z r => cases il
    · intro nc
      cases en with
      | nil => exact List.eq_nil_of_length_eq_zero il
      | cons z r => exact (nc ⟨z, (enm z).mp List.mem_cons_self⟩).elim
end
end Law

/-! cycle_nodes, find_anchors -/
namespace Law
open PySem PySem.Spec PyProof.Rows L2 U LamX


theorem ext_put {H H' : Hp} {D : Addr} {o : HO} (e : ExtN H H') (fD : H D = none) : ExtN H (upd H' D o) := fun b u h n => by
  rw [upd_ne (ne_of_none h fD)]
  exact e b u h n
theorem tabs_put {T : List (Addr × Str)} {H : Hp} {D : Addr} {xs ys : List V} (t : Tabs T H) (hD : H D = some (.lst xs)) : Tabs T (upd H D (.lst ys)) := fun p hp => by
  obtain ⟨ps, h1, h2, h3⟩ := t p hp
  refine ⟨ps, at_upd (ne_of h1 hD (by intro z; cases z)) h1, h2, fun pos cv hc => ?_⟩
  obtain ⟨c, e1, e2⟩ := h3 pos cv hc
  exact ⟨c, e1, at_upd (ne_of e2 hD (by intro z; unfold CodeO at z; cases z)) e2⟩
def spCycNodes (T : List (Addr × Str)) : Sp := fun vs H Q _ => ∃ (g n e st : Addr) (ns ord : List Str) (es : List (Addr × Str × Str)) (f : Str → Int), vs = [.ref g, .ref st] ∧ GSt H g n e st ns ord es f ∧ Tabs T H ∧
  ∀ (l : Addr) (ys : List Str) (H' : Hp), ExtN H H' → Tabs T H' → H l = none → H' l = some (.lst (ys.map V.str)) → (∀ y, y ∈ ys ↔ y ∈ ns ∧ Cyc (es.map (·.2)) f y) → Q (.ref l) H'
theorem sqT_ext {K : PySem.W.Frag} {H H' : Hp} {a : Addr} {xs : List V} (h : SqT K H a xs) (x : ExtN H H') : SqT K H' a xs := by
  rcases h with (h | ⟨o, h⟩) | h
  · exact .inl (.inl (ExtN.tu x h))
  · exact .inl (.inr ⟨o, x _ _ h fun _ z => nomatch z⟩)
  · exact .inr h
def spFindAnch (K : PySem.W.Frag) (T : List (Addr × Str)) : Sp := fun vs H Q _ => ∃ (g n e st ps : Addr) (ns ord pn : List Str) (es : List (Addr × Str × Str)) (f : Str → Int), vs = [.ref g, .ref st, .ref ps] ∧ GSt H g n e st ns ord es f ∧ SqT K H ps (pn.map V.str) ∧ Tabs T H ∧
  ∀ (l : Addr) (ys : List Str) (H' : Hp), ExtN H H' → Tabs T H' → (∀ b o, H b = some o → (∀ ps, o ≠ .tbl ps) → b ≠ l) → H' l = some (.lst (ys.map V.str)) → ys.length ≤ ns.length → (∀ y, y ∈ ys ↔ y ∈ ns ∧ (y ∈ pn ∨ Cyc (es.map (·.2)) f y)) → Q (.ref l) H'
section
variable {P : Program} {w : World} {K : PySem.W.Frag} {mg : Str → Option Value} {base : Heap}
structure Y7c (P : Program) (w : World) (K : PySem.W.Frag) (mg : Str → Option Value) (base : Heap) (T : List (Addr × Str)) : Prop where
  cycle_at : Cal P w K mg base CX0 4 "cycle_at" (spCycAt T)
theorem ok_cycle_nodes {f : Addr} {fd : FuncData} {T : List (Addr × Str)} (F : Fun K "cycle_nodes" "cycle_nodes" s_cycle_nodes f fd) (B : Bt mg) (C : Y7c P w K mg base T) : FnG P w K mg base CX0 5 f fd ["graph", "state"] (spCycNodes T) := by
  refine fnG0 F sc_cycle_nodes (fun vs H Q E h => ?_) (fun cdv A outer s H vs Q E hr h => ?_)
  · obtain ⟨g, n, e, st, ns, ord, es, f, rfl, _⟩ := h
    rfl
  · obtain ⟨g, n, e, st, ns, ord, es, f, rfl, gs, tabs, q⟩ := h
    have nd := sc_cycle_nodes.nd
    have hu := hr.u1
    refine ⟨_, (pss_one (ps_ret (pe_lc (own := [("node", 2)]) rfl nd (ki_tup K rfl (pe_ix (kIx K rfl) (pv 0) pe_int (fun _ _ => rfl))) (blkOk_by (own := [("node", 2)]) (N := nN_cycle_nodes) (sc := defScope s_cycle_nodes) (by decide +kernel)) (fun _ _ _ _ _ => (pg_name (i := 2) nd rfl (by first | exact Or.inl rfl | exact Or.inr rfl))) (fun _ _ _ _ _ => (pts_one (pt_cmpR uIsNot (pe_c C.cycle_at hr (by decide) rfl (pa_cons (pv 0) (pa_cons (pv 1) (pa_cons (pv 2) pa_nil)))) pe_non (nomark _)))) (fun _ _ _ _ _ => (pv 2))))), ?_⟩
    wtm_at "rd"
    refine rd_ixT (SqT.of gs.gr.top) (v := .ref n) rfl ?_
    refine rd_forT (SqT.of gs.gr.nodes) ?_
    intro D fD
    refine lcT (K := K) (xs := ns.map V.str) (fun j H' => ExtN H H' ∧ Tabs T H' ∧ ∃ ys : List Str, H' D = some (.lst (ys.map V.str)) ∧ ys.length ≤ j ∧ ∀ y, y ∈ ys ↔ y ∈ ns.take j ∧ Cyc (es.map (·.2)) f y) ⟨ExtN.of (Same.new fD), tabs.ext (Same.new fD), [], upd_same, Nat.le_refl _, fun y => by rw [List.take_zero]; exact ⟨(fun z => nomatch z), fun z => nomatch z.1⟩⟩ ?_ ?_ ?_
    · rintro j H' hj ⟨x, _⟩
      exact SqT.of (ExtN.tu x gs.gr.nodes)
    · rintro j y H' hy ⟨x, tb, ys, hD, yl, ym⟩
      obtain ⟨hj, rfl⟩ := map_at hy
      have tk := take_snoc hj
      have hxn := List.getElem_mem hj
      rw [tk]
      generalize ns[j] = a at *
      have yl2 : ys.length ≤ 1000 := by have := gs.l2; omega
      wtm_at "rd"
      refine ⟨g, n, e, st, a, ns, ord, es, f, rfl, gs.ext x, hxn, tb, fun v H2 x2 tb2 hv _ => ?_⟩
      have hD2 := ExtN.li x2 hD
      have x02 := x.trans x2
      wtm_at "rd"
      try refine rd_isNot ?_
      wtm_at "rd"
      refine rd_nsplit (fun c1 => ?_) (fun c1 => ?_)
      · have cy : Cyc (es.map (·.2)) f a := Classical.byContradiction fun z => c1 (hv.mpr z)
        wtm_at "rd"
        refine rd_acc hD2 (by rw [List.length_map]; omega) ?_
        refine ⟨ext_put x02 fD, tabs_put tb2 hD2, ys ++ [a], by rw [upd_same, List.map_append]; rfl, by rw [List.length_append, List.length_singleton]; omega, fun y => ?_⟩
        rw [List.mem_append, List.mem_append, List.mem_singleton, ym]
        constructor
        · rintro (⟨h1, h2⟩ | rfl)
          · exact ⟨.inl h1, h2⟩
          · exact ⟨.inr rfl, cy⟩
        · rintro ⟨h1 | h1, h2⟩
          · exact .inl ⟨h1, h2⟩
          · exact .inr h1
      · have nc := hv.mp c1
        refine ⟨x02, tb2, ys, hD2, by omega, fun y => ?_⟩
        rw [List.mem_append, List.mem_singleton, ym]
        constructor
        · rintro ⟨h1, h2⟩
          exact ⟨.inl h1, h2⟩
        · rintro ⟨h1 | rfl, h2⟩
          · exact ⟨h1, h2⟩
          · exact (nc h2).elim
    · rintro H' ⟨x, tb, ys, hD, yl, ym⟩
      rw [List.length_map, List.take_length] at ym
      exact q D ys H' x tb fD hD ym
structure Y7d (P : Program) (w : World) (K : PySem.W.Frag) (mg : Str → Option Value) (base : Heap) (T : List (Addr × Str)) : Prop where
  cycle_nodes : Cal P w K mg base CX0 5 "cycle_nodes" (spCycNodes T)
theorem ok_find_anchors {f : Addr} {fd : FuncData} {T : List (Addr × Str)} (F : Fun K "find_anchors" "find_anchors" s_find_anchors f fd) (B : Bt mg) (C : Y7d P w K mg base T) : FnG P w K mg base CX0 6 f fd ["graph", "state", "pinned"] (spFindAnch K T) := by
  refine fnG0 F sc_find_anchors (fun vs H Q E h => ?_) (fun cdv A outer s H vs Q E hr h => ?_)
  · obtain ⟨g, n, e, st, ps, ns, ord, pn, es, f, rfl, _⟩ := h
    rfl
  · obtain ⟨g, n, e, st, ps, ns, ord, pn, es, f, rfl, gs, hps, tabs, q⟩ := h
    have nd := sc_find_anchors.nd
    have hu := hr.u1
    refine ⟨_, (pss_cons (ps_set (i := 3) nd rfl (by first | exact Or.inl rfl | exact Or.inr rfl) (pe_c C.cycle_nodes hr (by decide) rfl (pa_cons (pv 0) (pa_cons (pv 1) pa_nil))))
  (pss_one (ps_ret (pe_lc (own := [("node", 4)]) rfl nd (ki_tup K rfl (pe_ix (kIx K rfl) (pv 0) pe_int (fun _ _ => rfl))) (blkOk_by (own := [("node", 4)]) (N := nN_find_anchors) (sc := defScope s_find_anchors) (by decide +kernel)) (fun _ _ _ _ _ => (pg_name (i := 4) nd rfl (by first | exact Or.inl rfl | exact Or.inr rfl))) (fun _ _ _ _ _ => (pts_one (PW.pt (pw_or (pt_cmpR (kIn K rfl) (pv 4) (pv 2) rfl) (pw_or1 (pt_cmpR (kIn K rfl) (pv 4) (pv 3) rfl)))))) (fun _ _ _ _ _ => (pv 4)))))), ?_⟩
    wtm_at "rd"
    refine ⟨g, n, e, st, ns, ord, es, f, rfl, gs, tabs, fun cl cy H1 x1 tb1 fcl hcl cm => ?_⟩
    have gs1 := gs.ext x1
    have hps1 := sqT_ext hps x1
    wtm_at "rd"
    refine rd_ixT (SqT.of gs1.gr.top) (v := .ref n) rfl ?_
    refine rd_forT (SqT.of gs1.gr.nodes) ?_
    intro D fD
    have fD0 : ∀ b o, H b = some o → (∀ ps, o ≠ .tbl ps) → b ≠ D := fun b o h z => ne_of_none (x1 _ _ h z) fD
    refine lcT (K := K) (xs := ns.map V.str) (fun j H' => Same H1 H' ∧ ∃ ys : List Str, H' D = some (.lst (ys.map V.str)) ∧ ys.length ≤ j ∧ ∀ y, y ∈ ys ↔ y ∈ ns.take j ∧ (y ∈ pn ∨ y ∈ cy)) ⟨Same.new fD, [], upd_same, Nat.le_refl _, fun y => by rw [List.take_zero]; exact ⟨(fun z => nomatch z), fun z => nomatch z.1⟩⟩ ?_ ?_ ?_
    · rintro j H' hj ⟨sb, _⟩
      exact SqT.of (sb _ _ gs1.gr.nodes)
    · rintro j y H' hy ⟨sb, ys, hD, yl, ym⟩
      obtain ⟨hj, rfl⟩ := map_at hy
      have tk := take_snoc hj
      rw [tk]
      generalize ns[j] = a at *
      have yl2 : ys.length ≤ 1000 := by have := gs.l2; omega
      have yes : (a ∈ pn ∨ a ∈ cy) → ∀ y, y ∈ ys ++ [a] ↔ y ∈ ns.take j ++ [a] ∧ (y ∈ pn ∨ y ∈ cy) := fun h y => by
        rw [List.mem_append, List.mem_append, List.mem_singleton, ym]
        constructor
        · rintro (⟨h1, h2⟩ | rfl)
          · exact ⟨.inl h1, h2⟩
          · exact ⟨.inr rfl, h⟩
        · rintro ⟨h1 | h1, h2⟩
          · exact .inl ⟨h1, h2⟩
          · exact .inr h1
      have add : ∀ h : a ∈ pn ∨ a ∈ cy, Same H1 (upd H' D (.lst (ys.map V.str ++ [V.str a]))) ∧ ∃ zs : List Str, (upd H' D (.lst (ys.map V.str ++ [V.str a]))) D = some (.lst (zs.map V.str)) ∧ zs.length ≤ j + 1 ∧ ∀ y, y ∈ zs ↔ y ∈ ns.take j ++ [a] ∧ (y ∈ pn ∨ y ∈ cy) := fun h => ⟨same_put sb fD, ys ++ [a], by rw [upd_same, List.map_append]; rfl, by rw [List.length_append, List.length_singleton]; omega, yes h⟩
      wtm_at "rd"
      refine rd_inST (Same.seqT sb hps1) ?_
      wtm_at "rd"
      refine rd_split (fun c1 => ?_) (fun c1 => ?_)
      · wtm_at "rd"
        refine rd_acc hD (by rw [List.length_map]; omega) ?_
        exact add (.inl c1)
      · wtm_at "rd"
        refine rd_inSL (SqL.of (sb _ _ hcl)) ?_
        wtm_at "rd"
        refine rd_split (fun c2 => ?_) (fun c2 => ?_)
        · wtm_at "rd"
          refine rd_acc hD (by rw [List.length_map]; omega) ?_
          exact add (.inr c2)
        · refine ⟨sb, ys, hD, by omega, fun y => ?_⟩
          rw [List.mem_append, List.mem_singleton, ym]
          constructor
          · rintro ⟨h1, h2⟩
            exact ⟨.inl h1, h2⟩
          · rintro ⟨h1 | rfl, h2⟩
            · exact ⟨h1, h2⟩
            · exact (h2.elim c1 c2).elim
    · rintro H' ⟨sb, ys, hD, yl, ym⟩
      rw [List.length_map] at yl
      rw [List.length_map, List.take_length] at ym
      exact q D ys H' (x1.trans (ExtN.of fun b o h => sb b o h)) (tb1.ext fun b o h => sb b o h) fD0 hD yl fun y => by
        rw [ym]
        constructor
        · rintro ⟨h1, h2 | h2⟩
          · exact ⟨h1, .inl h2⟩
          · exact ⟨h1, .inr ((cm y).mp h2).2⟩
        · rintro ⟨h1, h2 | h2⟩
          · exact ⟨h1, .inl h2⟩
          · exact ⟨h1, .inr ((cm y).mpr ⟨h1, h2⟩)⟩
end
end Law

/-! repr of [graph, state, pins], of moves -/
namespace Law
open PySem PySem.Spec PyProof.Rows L2 U
theorem mvd {ms : List (Addr × Str × Int)} : (ms.map fun m => PyData.tuple [.str m.2.1, .int m.2.2]) = (ms.map (·.2)).map fun m => PyData.tuple [.str m.1, .int m.2] := by
  rw [List.map_map]
  rfl
section
variable {K : PySem.W.Frag} {H : Hp} {Q : VK} {p q : Addr} {σ : L2.St}
end
end Law

/-! draws and tables of code objects together -/
namespace Law
open PySem PySem.Spec PyProof.Rows L2 U LamX
/-- nothing but the draws' source and the tables changes -/
structure GoN (T : List (Addr × Str)) (p : Addr) (H H' : Hp) : Prop where
  but : ∀ b o, b ≠ p → H b = some o → (∀ ps, o ≠ .tbl ps) → H' b = some o
  pool : PoolAt H' p
  tabs : Tabs T H'
theorem tabs_but {T : List (Addr × Str)} {H H' : Hp} {p : Addr} {ys : List V} (t : Tabs T H) (hp : H p = some (.lst ys)) (b : But p H H') : Tabs T H' := fun q hq => by
  obtain ⟨ps, h1, h2, h3⟩ := t q hq
  refine ⟨ps, b _ _ (ne_of h1 hp (by intro z; cases z)) h1, h2, fun pos cv hc => ?_⟩
  obtain ⟨c, e1, e2⟩ := h3 pos cv hc
  exact ⟨c, e1, b _ _ (ne_of e2 hp (by intro z; unfold CodeO at z; cases z)) e2⟩
section
variable {T : List (Addr × Str)} {p : Addr} {H H1 H' : Hp}
theorem GoN.refl (hp : PoolAt H p) (t : Tabs T H) : GoN T p H H := ⟨fun _ _ _ h _ => h, hp, t⟩
theorem GoN.trans (a : GoN T p H H1) (b : GoN T p H1 H') : GoN T p H H' := ⟨fun c o n h z => b.but c o n (a.but c o n h z) z, b.pool, b.tabs⟩
theorem GoN.of_go (t : Tabs T H) (hp : PoolAt H p) (g : Go p H H') : GoN T p H H' := ⟨fun b o n h _ => g.but b o n h, g.pool, by
  obtain ⟨ys, hy⟩ := hp.isL
  exact tabs_but t hy g.but⟩
theorem GoN.of_ext (hp : PoolAt H p) (x : ExtN H H') (t : Tabs T H') : GoN T p H H' := ⟨fun b o _ h z => x b o h z, hp.keep fun a xs h => ExtN.li x h, t⟩
theorem GoN.of_same (t : Tabs T H) (hp : PoolAt H p) (s : Same H H') : GoN T p H H' := .of_go t hp (Go.of_same hp s)
theorem GoN.go (a : GoN T p H H1) (g : Go p H1 H') : GoN T p H H' := a.trans (.of_go a.tabs a.pool g)
theorem GoN.same (a : GoN T p H H1) (s : Same H1 H') : GoN T p H H' := a.trans (.of_same a.tabs a.pool s)
theorem GoN.ext (a : GoN T p H H1) (x : ExtN H1 H') (t : Tabs T H') : GoN T p H H' := a.trans (.of_ext a.pool x t)
theorem GoN.tu (g : GoN T p H H') (hp : PoolAt H p) {a : Addr} {xs : List V} (h : H a = some (.tup xs)) : H' a = some (.tup xs) := g.but _ _ (hp.offT h) h fun _ z => nomatch z
theorem GoN.dk (g : GoN T p H H') (hp : PoolAt H p) {a : Addr} {xs : List (Key × V)} (h : H a = some (.dK xs)) : H' a = some (.dK xs) := g.but _ _ (hp.offD h) h fun _ z => nomatch z
theorem GoN.li (g : GoN T p H H') {a : Addr} {xs : List V} (n : a ≠ p) (h : H a = some (.lst xs)) : H' a = some (.lst xs) := g.but _ _ n h fun _ z => nomatch z
theorem PoolAt.offN {a : Addr} (h : PoolAt H p) (n : H a = none) : a ≠ p := Ne.symm (h.ne n)
theorem TupsAt.ext {ms : List (Addr × Str × Int)} (h : TupsAt H ms) (x : ExtN H H') : TupsAt H' ms := fun m hm => ExtN.tu x (h m hm)
end
end Law

/-! feasible lifts: of moves, and shifted -/
namespace U
open PySem PySem.Spec PyProof.Rows L2
theorem cnt_not {x : Str} : ∀ {ms : List (Str × Int)} {f h : Str → Int}, x ∉ ms.map (·.1) → (countF f h ms).2 x = h x
  | [], _, _, _ => rfl
  | (n, v) :: r, f, h, nx => by
    have nx' : x ≠ n ∧ x ∉ r.map (·.1) := by
      rw [List.map_cons, List.mem_cons, not_or] at nx
      exact nx
    show (countF (updf f n v) (updf h n (h n + dlt (f n - v))) r).2 x = h x
    rw [cnt_not nx'.2]
    unfold updf
    rw [if_neg nx'.1]
section
variable {ns : List Str} {es : List (Str × Str)} {f h : Str → Int} {pn : List Str}
theorem plays_off (ok : EsOk ns es f) {ms : List (Str × Int)} {f' : Str → Int} (p : Plays ns es pn f ms f') : EsOk ns es f' ∧ (∀ x, Cyc es f' x ↔ Cyc es f x) ∧ ∀ x, (x ∈ pn ∨ Cyc es f x) → x ∉ ms.map (·.1) := by
  induction p with
  | nil => exact ⟨ok, fun _ => Iff.rfl, fun x _ z => nomatch z⟩
  | @snoc ms f' m p l ih =>
    obtain ⟨i1, i2, i3⟩ := ih
    refine ⟨(move_keeps (f0 := f') (h := fun _ => 0) i1 l fun e _ => by omega).1, fun x => (cyc_iff i1 l).trans (i2 x), fun x hx z => ?_⟩
    rw [List.map_append] at z
    rcases List.mem_append.mp z with z | z
    · exact i3 x hx z
    · have e : x = m.1 := List.mem_singleton.mp z
      rw [e] at hx
      rcases hx with hx | hx
      · exact l.pin hx
      · exact cyc_still i1 l ((i2 _).mpr hx)
theorem feas_count (ok : EsOk ns es f) {ms : List (Str × Int)} {f' : Str → Int} (p : Plays ns es pn f ms f') : Feas ns es f (countF f (fun _ => 0) ms).2 pn := by
  have o := (plays_off ok p).2.2
  exact ⟨fits_count ok p, fun x hx => cnt_not (o x (.inl hx)), fun x hx => cnt_not (o x (.inr hx))⟩
end
end U

/-! lifts performed, step by step -/
namespace U
open PySem PySem.Spec PyProof.Rows L2
/-- one less to go at n -/
def redU (h : Str → Int) (n : Str) : Str → Int := updf h n (h n + (if 0 < h n then -1 else 1))
section
variable {ns : List Str} {es : List (Str × Str)} {f h : Str → Int} {pn : List Str}
theorem sz_cons {n : Str} {r : List Str} : sz (n :: r) h = ((h n).natAbs : Int) + sz r h := List.sum_cons
theorem sz_off {n : Str} {v : Int} : ∀ {xs : List Str}, n ∉ xs → sz xs (updf h n v) = sz xs h
  | [], _ => rfl
  | x :: t, nm => by
    rw [sz_cons, sz_cons, sz_off fun z => nm (List.mem_cons_of_mem _ z)]
    have : x ≠ n := fun z => nm (z ▸ List.mem_cons_self)
    unfold updf
    rw [if_neg this]
theorem sz_upd {n : Str} {v : Int} : ∀ {xs : List Str}, xs.Nodup → n ∈ xs → sz xs (updf h n v) = sz xs h - ((h n).natAbs : Int) + (v.natAbs : Int)
  | x :: t, nd, hm => by
    rw [sz_cons, sz_cons]
    rw [List.nodup_cons] at nd
    by_cases e : x = n
    · subst e
      rw [sz_off nd.1]
      unfold updf
      rw [if_pos rfl]
      omega
    · rw [sz_upd nd.2 ((List.mem_cons.mp hm).resolve_left fun z => e z.symm)]
      have : updf h n v x = h x := by
        unfold updf
        rw [if_neg e]
      rw [this]
      omega
theorem sz_red {n : Str} (nd : ns.Nodup) (hn : n ∈ ns) (h0 : h n ≠ 0) : sz ns (redU h n) = sz ns h - 1 := by
  unfold redU
  rw [sz_upd nd hn]
  split <;> omega
theorem dlt_mod {d : Int} : (d - dlt d) % 3 = 0 ∧ -1 ≤ dlt d ∧ dlt d ≤ 1 := by
  unfold dlt
  split
  · omega
  · split <;> omega
/-- the moves of a lift, each the first progress move -/
inductive PerfR (ns : List Str) (es : List (Str × Str)) (pn : List Str) (f h : Str → Int) : List (Str × Int) → (Str → Int) → (Str → Int) → Prop
  | nil : PerfR ns es pn f h [] f h
  | snoc {ms : List (Str × Int)} {f' h' : Str → Int} {m : Str × Int} {r : List (Str × Int)} : PerfR ns es pn f h ms f' h' → progF ns es f' h' pn = m :: r → PerfR ns es pn f h (ms ++ [m]) (updf f' m.1 m.2) (redU h' m.1)
/-- .. or any progress move -/
inductive AnyR (ns : List Str) (es : List (Str × Str)) (pn : List Str) (f h : Str → Int) : List (Str × Int) → (Str → Int) → (Str → Int) → Prop
  | nil : AnyR ns es pn f h [] f h
  | snoc {ms : List (Str × Int)} {f' h' : Str → Int} {m : Str × Int} : AnyR ns es pn f h ms f' h' → m ∈ progF ns es f' h' pn → AnyR ns es pn f h (ms ++ [m]) (updf f' m.1 m.2) (redU h' m.1)
theorem PerfR.any {ms : List (Str × Int)} {f' h' : Str → Int} (r : PerfR ns es pn f h ms f' h') : AnyR ns es pn f h ms f' h' := by
  induction r with
  | nil => exact .nil
  | snoc _ e ih => exact .snoc ih (by rw [e]; exact List.mem_cons_self)
theorem prog_ne {m : Str × Int} (hm : m ∈ progF ns es f h pn) : h m.1 ≠ 0 := by
  have g := (prog_legal hm).2
  have go : (0 < h m.1 ∧ (f m.1 - m.2) % 3 = 1) ∨ (h m.1 < 0 ∧ ¬ (f m.1 - m.2) % 3 = 1) := by
    unfold goP at g
    simpa only [Bool.or_eq_true, Bool.and_eq_true, decide_eq_true_iff, Bool.not_eq_true', decide_eq_false_iff_not] using g
  omega
/-- a progress move: what it keeps -/
theorem prog_step (ok : EsOk ns es f) (nd : ns.Nodup) (fe : Feas ns es f h pn) {m : Str × Int} (hm : m ∈ progF ns es f h pn) :
    EsOk ns es (updf f m.1 m.2) ∧ Feas ns es (updf f m.1 m.2) (redU h m.1) pn ∧ sz ns (redU h m.1) = sz ns h - 1 ∧ ∀ n ∈ ns, (updf f m.1 m.2 n - redU h m.1 n) % 3 = (f n - h n) % 3 := by
  have lg := (prog_legal hm).1
  have e := prog_dlt ok hm
  have fe2 := feas_move ok fe lg
  rw [e] at fe2
  refine ⟨(move_keeps (f0 := f) (h := fun _ => 0) ok lg fun e _ => by omega).1, fe2, sz_red nd lg.mem (prog_ne hm), fun n hn => ?_⟩
  unfold redU
  rw [← e]
  unfold updf
  by_cases z : n = m.1
  · rw [if_pos z, if_pos z, z]
    have := dlt_mod (d := f m.1 - m.2)
    omega
  · rw [if_neg z, if_neg z]
theorem AnyR.keeps (ok : EsOk ns es f) (nd : ns.Nodup) (fe : Feas ns es f h pn) {ms : List (Str × Int)} {f' h' : Str → Int} (r : AnyR ns es pn f h ms f' h') :
    EsOk ns es f' ∧ Feas ns es f' h' pn ∧ sz ns h' + ms.length = sz ns h ∧ (∀ n ∈ ns, (f' n - h' n) % 3 = (f n - h n) % 3) ∧ Plays ns es pn f ms f' := by
  induction r with
  | nil => exact ⟨ok, fe, by simp, fun _ _ => rfl, .nil⟩
  | @snoc ms f' h' m r hm ih =>
    obtain ⟨i1, i2, i3, i4, i5⟩ := ih
    obtain ⟨s1, s2, s3, s4⟩ := prog_step i1 nd i2 hm
    refine ⟨s1, s2, ?_, fun n hn => (s4 n hn).trans (i4 n hn), .snoc i5 (prog_legal hm).1⟩
    rw [List.length_append, List.length_singleton]
    omega
/-- nothing is left: the state of the lift -/
theorem AnyR.done (ok : EsOk ns es f) (nd : ns.Nodup) (fe : Feas ns es f h pn) {ms : List (Str × Int)} {f' h' : Str → Int} (r : AnyR ns es pn f h ms f' h') (z : sz ns h' = 0) : ∀ n ∈ ns, f' n = (f n - h n) % 3 := fun n hn => by
  obtain ⟨a, _, _, b, _⟩ := r.keeps ok nd fe
  have t := a.tri n hn
  have := b n hn
  rw [sz_zero.mp z n hn] at this
  omega
/-- a lift of moves: no more than these, and the state it leads to -/
theorem plays_lift (ok : EsOk ns es f) (nd : ns.Nodup) {ms : List (Str × Int)} {f' : Str → Int} (p : Plays ns es pn f ms f') :
    EsOk ns es f' ∧ (countF f (fun _ => 0) ms).1 = f' ∧ sz ns (countF f (fun _ => 0) ms).2 ≤ ms.length ∧ ∀ n ∈ ns, f' n = (f n - (countF f (fun _ => 0) ms).2 n) % 3 := by
  induction p with
  | nil =>
    refine ⟨ok, rfl, ?_, fun n hn => ?_⟩
    · show sz ns (fun _ => 0) ≤ 0
      exact Int.le_of_eq (sz_zero.mpr fun _ _ => rfl)
    · show f n = (f n - 0) % 3
      have := ok.tri n hn
      omega
  | @snoc ms f' m p l ih =>
    obtain ⟨i1, i2, i3, i4⟩ := ih
    have ok2 := (move_keeps (f0 := f') (h := fun _ => 0) i1 l fun e _ => by omega).1
    obtain ⟨n, v⟩ := m
    rw [countF_snoc, i2]
    generalize (countF f (fun _ => 0) ms).2 = h0 at *
    have dm := dlt_mod (d := f' n - v)
    refine ⟨ok2, rfl, ?_, fun x hx => ?_⟩
    · rw [sz_upd nd l.mem, List.length_append, List.length_singleton]
      show sz ns h0 - ((h0 n).natAbs : Int) + ((h0 n + dlt (f' n - v)).natAbs : Int) ≤ _
      omega
    · have j := i4 x hx
      have t := ok2.tri x hx
      show updf f' n v x = (f x - updf h0 n (h0 n + dlt (f' n - v)) x) % 3
      have t : 0 ≤ updf f' n v x ∧ updf f' n v x < 3 := t
      unfold updf at t ⊢
      by_cases z : x = n
      · rw [if_pos z] at t ⊢
        rw [if_pos z]
        rw [z] at j ⊢
        omega
      · rw [if_neg z] at t ⊢
        rw [if_neg z]
        exact j
def plU (f : Str → Int) (ms : List (Str × Int)) : Str → Int := ms.foldl (fun f m => updf f m.1 m.2) f
def rdU (h : Str → Int) (ms : List (Str × Int)) : Str → Int := ms.foldl (fun h m => redU h m.1) h
theorem plU_snoc {ms : List (Str × Int)} {m : Str × Int} : plU f (ms ++ [m]) = updf (plU f ms) m.1 m.2 := by
  unfold plU
  rw [List.foldl_append]
  rfl
theorem rdU_snoc {ms : List (Str × Int)} {m : Str × Int} : rdU h (ms ++ [m]) = redU (rdU h ms) m.1 := by
  unfold rdU
  rw [List.foldl_append]
  rfl
theorem AnyR.ends {ms : List (Str × Int)} {f' h' : Str → Int} (r : AnyR ns es pn f h ms f' h') : f' = plU f ms ∧ h' = rdU h ms := by
  induction r with
  | nil => exact ⟨rfl, rfl⟩
  | snoc _ _ ih => exact ⟨by rw [plU_snoc, ih.1], by rw [rdU_snoc, ih.2]⟩
theorem AnyR.at {ms : List (Str × Int)} {f' h' : Str → Int} (r : AnyR ns es pn f h ms f' h') : ∀ i (hi : i < ms.length), AnyR ns es pn f h (ms.take i) (plU f (ms.take i)) (rdU h (ms.take i)) ∧ ms[i] ∈ progF ns es (plU f (ms.take i)) (rdU h (ms.take i)) pn := by
  induction r with
  | nil => exact fun i hi => absurd hi (Nat.not_lt_zero i)
  | @snoc ms f' h' m r hm ih =>
    intro i hi
    rw [List.length_append, List.length_singleton] at hi
    by_cases c : i < ms.length
    · rw [List.take_append_of_le_length (by omega), List.getElem_append_left c]
      exact ih i c
    · obtain rfl : i = ms.length := by omega
      obtain ⟨e1, e2⟩ := r.ends
      rw [List.take_append_of_le_length (Nat.le_refl _), List.take_length, List.getElem_append_right (Nat.le_refl _), ← e1, ← e2]
      simp only [Nat.sub_self, List.getElem_cons_zero]
      exact ⟨r, hm⟩
end
end U

/-! a def with defaults of its positional parameters -/
namespace U
open PySem PySem.Spec PyProof.Rows L2
section
variable {P : Program} {w : World} {K : PySem.W.Frag} {mg : Str → Option Value} {base : Heap}
end
end U

/-! lifts performed: nothing is raised -/
namespace Law
open PySem PySem.Spec PyProof.Rows L2 U LamX


def spCloser : Sp := fun vs H Q _ => ∃ x : Int, vs = [.int x] ∧ Q (.int (x + (if 0 < x then -1 else 1))) H
def spCheckLift (K : PySem.W.Frag) (T : List (Addr × Str)) : Sp := fun vs H Q _ => ∃ (g n e st c ps : Addr) (ns ord pn : List Str) (es : List (Addr × Str × Str)) (f h : Str → Int), vs = [.ref g, .ref st, .ref c, .ref ps] ∧ GSt H g n e st ns ord es f ∧ H c = some (.dK (kvF ns h)) ∧ SqT K H ps (pn.map V.str) ∧ Tabs T H ∧ Feas ns (es.map (·.2)) f h pn ∧
  ∀ H' : Hp, ExtN H H' → Tabs T H' → Q .non H'
section
variable {P : Program} {w : World} {K : PySem.W.Frag} {mg : Str → Option Value} {base : Heap}
theorem ok_closer {f : Addr} {fd : FuncData} (F : Fun K "closer_to_zero" "closer_to_zero" s_closer_to_zero f fd) (B : Bt mg) : FnG P w K mg base CX0 1 f fd ["number"] spCloser := by
  refine fnG0 F sc_closer_to_zero (fun vs H Q E h => ?_) (fun cdv A outer s H vs Q E hr h => ?_)
  · obtain ⟨x, rfl, _⟩ := h
    rfl
  · obtain ⟨x, rfl, q⟩ := h
    have nd := sc_closer_to_zero.nd
    have hu := hr.u1
    refine ⟨_, (pss_one (ps_ret (pe_ifExp (pt_cmpR uGt (pv 0) pe_int (nomark _)) (pe_op uSub (pv 0) pe_int) (pe_op (kAdd K rfl) (pv 0) pe_int)))), ?_⟩
    wtm_at "rd"
    refine rd_split (fun c => ?_) (fun c => ?_)
    · rw [if_pos c] at q
      wtm_at "rd"
      exact q
    · rw [if_neg c] at q
      wtm_at "rd"
      exact q
structure PFc (P : Program) (w : World) (K : PySem.W.Frag) (mg : Str → Option Value) (base : Heap) (T : List (Addr × Str)) : Prop where
  is_lift : Cal P w K mg base CX0 3 "is_lift" spIsLift
  find_anchors : Cal P w K mg base CX0 6 "find_anchors" (spFindAnch K T)
theorem ok_check_lift {f : Addr} {fd : FuncData} {T : List (Addr × Str)} (F : Fun K "check_lift" "check_lift" s_check_lift f fd) (B : Bt mg) (C : PFc P w K mg base T) : FnG P w K mg base CX0 7 f fd ["graph", "state", "lift", "pinned"] (spCheckLift K T) := by
  refine fnG0 F sc_check_lift (fun vs H Q E h => ?_) (fun cdv A outer s H vs Q E hr h => ?_)
  · obtain ⟨g, n, e, st, c, ps, ns, ord, pn, es, f, h, rfl, _⟩ := h
    rfl
  · obtain ⟨g, n, e, st, c, ps, ns, ord, pn, es, f, h, rfl, gs, hc, hps, tabs, fe, q⟩ := h
    have nd := sc_check_lift.nd
    have hu := hr.u1
    refine ⟨_, (pss_cons (ps_if (pt_not (pt_val (pe_c C.is_lift hr (by decide) rfl (pa_cons (pv 0) (pa_cons (pv 1) (pa_cons (pv 2) pa_nil)))))) (pss_one ps_dead) pss_nil)
  (pss_one (ps_for PassesOwn.never rfl (ki_list K rfl (pe_c C.find_anchors hr (by decide) rfl (pa_cons (pv 0) (pa_cons (pv 1) (pa_cons (pv 3) pa_nil))))) (pg_name (i := 4) nd rfl (by first | exact Or.inl rfl | exact Or.inr rfl)) (pss_one (ps_if (pt_cmpR (kNe K rfl hr.u64) (pe_dget hu (pv 2) (pv 4) (fun _ _ => rfl)) pe_int (nomark _)) (pss_one ps_dead) pss_nil))))), ?_⟩
    wtm_at "rd"
    refine ⟨g, n, e, st, c, ns, ord, es, f, h, rfl, gs, hc, fun H1 s1 => ?_⟩
    have fits : ((es.map (·.2)).all fun e => fitB f h e.1 e.2) = true := List.all_eq_true.mpr fun e he => fe.fit e he
    rw [fits]
    wtm_at "rd"
    refine ⟨g, n, e, st, ps, ns, ord, pn, es, f, rfl, gs.same s1, Same.seqT s1 hps, tabs.ext fun b o h => s1 b o h, fun al an H2 x2 tb2 _ hal _ am => ?_⟩
    have x02 : ExtN H H2 := (ExtN.of fun b o h => s1 b o h).trans x2
    have hc2 := ExtN.dk x2 (s1 _ _ hc)
    refine rd_forL (SqL.of hal) ?_
    refine turnsL (K := K) (xs := an.map V.str) (fun j σ H' => ∃ u : Option V, σ = [some (.ref g), some (.ref st), some (.ref c), some (.ref ps), u] ∧ H' = H2) ⟨_, rfl, rfl⟩ ?_ ?_ ?_
    · rintro j σ H' hj ⟨u, rfl, rfl⟩
      exact SqL.of hal
    · rintro j y σ H' hy ⟨u, rfl, rfl⟩
      obtain ⟨hj, rfl⟩ := map_at hy
      obtain ⟨a1, a2⟩ := (am _).mp (List.getElem_mem hj)
      generalize an[j] = y at *
      have h0 : h y = 0 := a2.elim (fe.pin y) (fe.cyc y)
      wtm_at "rd"
      refine rd_dat (.inl hc2) (kvF_val a1) rfl ?_
      wtm_at "rd"
      refine rd_nno h0 ?_
      wtm_at "rd"
      exact ⟨_, rfl, rfl⟩
    · rintro σ H' ⟨u, rfl, rfl⟩
      wtm_at "rd"
      exact q H' x02 tb2
theorem AdjAt.off {H : Hp} {ad a : Addr} {ns : List Str} {es : List (Str × Str)} {Ad : Str → Addr} (h : AdjAt H ad ns es Ad) (n : H a = none) : ad ≠ a ∧ ∀ x ∈ ns, Ad x ≠ a := ⟨ne_of_none h.di n, fun x hx => by
  obtain ⟨ys, h1, _⟩ := h.li x hx
  exact ne_of_none h1 n⟩
theorem AdjAt.put {H : Hp} {ad a : Addr} {o : HO} {ns : List Str} {es : List (Str × Str)} {Ad : Str → Addr} (h : AdjAt H ad ns es Ad) (n : ad ≠ a ∧ ∀ x ∈ ns, Ad x ≠ a) : AdjAt (upd H a o) ad ns es Ad := ⟨at_upd n.1 h.di, fun x hx => by
  obtain ⟨ys, h1, h2⟩ := h.li x hx
  exact ⟨ys, at_upd (n.2 x hx) h1, h2⟩⟩
end
end Law

/-! rounds of progress moves: the plain law -/
namespace U
open PySem PySem.Spec PyProof.Rows L2
section
variable {ns : List Str} {es : List (Str × Str)} {f h : Str → Int} {pn : List Str}
theorem prog_iff (ok : EsOk ns es f) {m : Str × Int} : m ∈ progF ns es f h pn ↔ m.1 ∈ ns ∧ m.1 ∉ pn ∧ h m.1 ≠ 0 ∧ (∀ o, Adj es m.1 o → slp f m.1 o = dirU (h m.1)) ∧ m.2 = (f m.1 - dirU (h m.1)) % 3 := by
  rw [prog_eq ok fun _ h => h, List.mem_flatMap]
  constructor
  · rintro ⟨x, hx, hm⟩
    unfold pmF pvF at hm
    by_cases c : h x ≠ 0 ∧ ∀ o ∈ nbS es x, slp f x o = dirU (h x)
    · rw [if_pos c] at hm
      have hm : m ∈ (if x ∈ pn then [] else [(x, (f x - dirU (h x)) % 3)]) := hm
      split at hm
      · cases hm
      · rename_i np
        obtain rfl := List.mem_singleton.mp hm
        exact ⟨hx, np, c.1, fun o ho => c.2 o (nbS_mem.mpr ho), rfl⟩
    · rw [if_neg c] at hm
      cases hm
  · rintro ⟨a, b, c, d, e⟩
    refine ⟨m.1, a, ?_⟩
    unfold pmF pvF
    rw [if_pos ⟨c, fun o ho => d o (nbS_mem.mp ho)⟩]
    show m ∈ (if m.1 ∈ pn then [] else [(m.1, (f m.1 - dirU (h m.1)) % 3)])
    rw [if_neg b, ← e]
    exact List.mem_singleton.mpr rfl
theorem pm_shape {x : Str} : pmF es f h pn x = [] ∨ pmF es f h pn x = [(x, (f x - dirU (h x)) % 3)] := by
  unfold pmF pvF
  by_cases c : h x ≠ 0 ∧ ∀ o ∈ nbS es x, slp f x o = dirU (h x)
  · rw [if_pos c]
    show (if x ∈ pn then [] else [(x, (f x - dirU (h x)) % 3)]) = [] ∨ (if x ∈ pn then [] else [(x, (f x - dirU (h x)) % 3)]) = _
    split
    · exact .inl rfl
    · exact .inr rfl
  · rw [if_neg c]
    exact .inl rfl
theorem pm_nodup : ∀ {xs : List Str}, xs.Nodup → ((xs.flatMap (pmF es f h pn)).map (·.1)).Nodup ∧ ∀ y ∈ (xs.flatMap (pmF es f h pn)).map (·.1), y ∈ xs
  | [], _ => ⟨List.nodup_nil, fun y h => nomatch h⟩
  | x :: r, nd => by
    have nd' := List.nodup_cons.mp nd
    obtain ⟨i1, i2⟩ := pm_nodup nd'.2
    rw [List.flatMap_cons, List.map_append]
    rcases pm_shape (es := es) (f := f) (h := h) (pn := pn) (x := x) with e | e
    · rw [e]
      exact ⟨i1, fun y hy => List.mem_cons_of_mem _ (i2 y hy)⟩
    · rw [e]
      refine ⟨List.nodup_cons.mpr ⟨fun z => nd'.1 (i2 x z), i1⟩, fun y hy => ?_⟩
      rcases List.mem_cons.mp hy with z | z
      · rw [z]
        exact List.mem_cons_self
      · exact List.mem_cons_of_mem _ (i2 y z)
theorem prog_nodup (ok : EsOk ns es f) (nd : ns.Nodup) : ((progF ns es f h pn).map (·.1)).Nodup := by
  rw [prog_eq ok fun _ h => h]
  exact (pm_nodup nd).1
/-- numbers of neighbors differ by one at most -/
theorem fe_near (ok : EsOk ns es f) (fe : Feas ns es f h pn) {a b : Str} (k : Adj es a b) : slp f a b - 2 * (h a - h b) = 1 ∨ slp f a b - 2 * (h a - h b) = -1 := by
  rcases k with k | k
  · exact fit_pm.mp (fe.fit _ k)
  · have e := fit_pm.mp (fe.fit _ k)
    have s := slp_neg ok (show Adj es b a from .inl k)
    have e : slp f b a - 2 * (h b - h a) = 1 ∨ slp f b a - 2 * (h b - h a) = -1 := e
    omega
theorem prog_apart (ok : EsOk ns es f) (fe : Feas ns es f h pn) {a b : Str × Int} (ha : a ∈ progF ns es f h pn) (hb : b ∈ progF ns es f h pn) : ¬ Adj es a.1 b.1 := fun k => by
  obtain ⟨_, _, a3, a4, _⟩ := (prog_iff ok).mp ha
  obtain ⟨_, _, b3, b4, _⟩ := (prog_iff ok).mp hb
  have e1 := a4 _ k
  have e2 := b4 _ k.symm
  have e3 := slp_neg ok k
  have e4 := fe_near ok fe k
  unfold dirU at e1 e2
  split at e1 <;> split at e2 <;> omega
theorem prog_after (ok : EsOk ns es f) (nd : ns.Nodup) (fe : Feas ns es f h pn) {a b : Str × Int} (ha : a ∈ progF ns es f h pn) (hb : b ∈ progF ns es f h pn) (ne : b.1 ≠ a.1) : b ∈ progF ns es (updf f a.1 a.2) (redU h a.1) pn := by
  obtain ⟨ok', _⟩ := prog_step ok nd fe ha
  obtain ⟨b1, b2, b3, b4, b5⟩ := (prog_iff ok).mp hb
  have u1 : updf f a.1 a.2 b.1 = f b.1 := if_neg ne
  have u2 : redU h a.1 b.1 = h b.1 := if_neg ne
  refine (prog_iff ok').mpr ⟨b1, b2, by rw [u2]; exact b3, fun o ho => ?_, by rw [u1, u2]; exact b5⟩
  have no : o ≠ a.1 := fun z => prog_apart ok fe hb ha (by rw [← z]; exact ho)
  rw [slp_off ne no, u2]
  exact b4 o ho
theorem AnyR.trans {ms ms2 : List (Str × Int)} {f' h' f2 h2 : Str → Int} (a : AnyR ns es pn f h ms f' h') (b : AnyR ns es pn f' h' ms2 f2 h2) : AnyR ns es pn f h (ms ++ ms2) f2 h2 := by
  induction b with
  | nil => rw [List.append_nil]; exact a
  | snoc _ hm ih => rw [← List.append_assoc]; exact .snoc ih hm
/-- progress moves of one point, one after another -/
theorem round_any (ok : EsOk ns es f) (nd : ns.Nodup) (fe : Feas ns es f h pn) {ms : List (Str × Int)} (all : ∀ m ∈ ms, m ∈ progF ns es f h pn) (ndm : (ms.map (·.1)).Nodup) : ∀ i, i ≤ ms.length →
    AnyR ns es pn f h (ms.take i) (plU f (ms.take i)) (rdU h (ms.take i)) ∧ ∀ b ∈ progF ns es f h pn, b.1 ∉ (ms.take i).map (·.1) → b ∈ progF ns es (plU f (ms.take i)) (rdU h (ms.take i)) pn := by
  intro i
  induction i with
  | zero => exact fun _ => ⟨.nil, fun b hb _ => hb⟩
  | succ i ih =>
    intro hi
    obtain ⟨r, k⟩ := ih (by omega)
    have tk : ms.take (i + 1) = ms.take i ++ [ms[i]] := by
      rw [List.take_succ, List.getElem?_eq_getElem (by omega)]
      rfl
    have hm := all _ (List.getElem_mem (by omega : i < ms.length))
    have nin : ms[i].1 ∉ (ms.take i).map (·.1) := fun z => by
      rw [List.nodup_iff_pairwise_ne, List.pairwise_iff_getElem] at ndm
      obtain ⟨j, hj, e⟩ := List.mem_iff_getElem.mp z
      rw [List.getElem_map, List.getElem_take] at e
      rw [List.length_map, List.length_take] at hj
      have := ndm j i (by rw [List.length_map]; omega) (by rw [List.length_map]; omega) (by omega)
      rw [List.getElem_map, List.getElem_map] at this
      exact this e
    have hm' := k _ hm nin
    obtain ⟨ok', fe', _⟩ := r.keeps ok nd fe
    rw [tk, plU_snoc, rdU_snoc]
    refine ⟨.snoc r hm', fun b hb nb => ?_⟩
    rw [List.map_append, List.mem_append, not_or] at nb
    exact prog_after ok' nd fe' hm' (k b hb nb.1) fun z => nb.2 (by rw [z]; exact List.mem_singleton.mpr rfl)
theorem round_all (ok : EsOk ns es f) (nd : ns.Nodup) (fe : Feas ns es f h pn) : AnyR ns es pn f h (progF ns es f h pn) (plU f (progF ns es f h pn)) (rdU h (progF ns es f h pn)) := by
  have := (round_any ok nd fe (ms := progF ns es f h pn) (fun _ h => h) (prog_nodup ok nd) _ (Nat.le_refl _)).1
  rw [List.take_length] at this
  exact this
/-- rounds that are each all progress moves -/
inductive RoundR (ns : List Str) (es : List (Str × Str)) (pn : List Str) (f h : Str → Int) : List (List (Str × Int)) → (Str → Int) → (Str → Int) → Prop
  | nil : RoundR ns es pn f h [] f h
  | snoc {rs : List (List (Str × Int))} {f' h' : Str → Int} : RoundR ns es pn f h rs f' h' → progF ns es f' h' pn ≠ [] → RoundR ns es pn f h (rs ++ [progF ns es f' h' pn]) (plU f' (progF ns es f' h' pn)) (rdU h' (progF ns es f' h' pn))
theorem RoundR.any (ok : EsOk ns es f) (nd : ns.Nodup) (fe : Feas ns es f h pn) {rs : List (List (Str × Int))} {f' h' : Str → Int} (r : RoundR ns es pn f h rs f' h') : AnyR ns es pn f h rs.flatten f' h' := by
  induction r with
  | nil => exact .nil
  | @snoc rs f' h' r ne ih =>
    obtain ⟨ok', fe', _⟩ := ih.keeps ok nd fe
    rw [List.flatten_append]
    have := ih.trans (round_all ok' nd fe')
    simpa using this
theorem RoundR.len (ok : EsOk ns es f) (nd : ns.Nodup) (fe : Feas ns es f h pn) {rs : List (List (Str × Int))} {f' h' : Str → Int} (r : RoundR ns es pn f h rs f' h') : (rs.length : Int) + sz ns h' ≤ sz ns h := by
  induction r with
  | nil => simp
  | @snoc rs f' h' r ne ih =>
    obtain ⟨ok', fe', _⟩ := (r.any ok nd fe).keeps ok nd fe
    obtain ⟨_, _, s, _⟩ := (round_all ok' nd fe').keeps ok' nd fe'
    have : 0 < (progF ns es f' h' pn).length := List.length_pos_iff.mpr ne
    rw [List.length_append, List.length_singleton]
    omega
theorem RoundR.at {rs : List (List (Str × Int))} {f' h' : Str → Int} (r : RoundR ns es pn f h rs f' h') : ∀ i (hi : i < rs.length), ∃ f1 h1, RoundR ns es pn f h (rs.take i) f1 h1 ∧ rs[i] = progF ns es f1 h1 pn ∧ progF ns es f1 h1 pn ≠ [] ∧ RoundR ns es pn f h (rs.take (i + 1)) (plU f1 rs[i]) (rdU h1 rs[i]) := by
  induction r with
  | nil => exact fun i hi => absurd hi (Nat.not_lt_zero i)
  | @snoc rs f' h' r ne ih =>
    intro i hi
    rw [List.length_append, List.length_singleton] at hi
    by_cases c : i < rs.length
    · obtain ⟨f1, h1, a, b, d, e⟩ := ih i c
      refine ⟨f1, h1, ?_⟩
      rw [List.take_append_of_le_length (by omega), List.getElem_append_left c, List.take_append_of_le_length (by omega)]
      exact ⟨a, b, d, e⟩
    · obtain rfl : i = rs.length := by omega
      refine ⟨f', h', ?_⟩
      rw [List.take_append_of_le_length (Nat.le_refl _), List.take_length, List.getElem_append_right (Nat.le_refl _), List.take_of_length_le (by rw [List.length_append]; exact Nat.le_refl _)]
      simp only [Nat.sub_self, List.getElem_cons_zero]
      exact ⟨r, trivial, ne, .snoc r ne⟩
theorem RoundR.ends {rs : List (List (Str × Int))} {f' h' : Str → Int} (r : RoundR ns es pn f h rs f' h') : f' = plU f rs.flatten ∧ h' = rdU h rs.flatten := by
  induction r with
  | nil => exact ⟨rfl, rfl⟩
  | @snoc rs f' h' r ne ih =>
    obtain ⟨e1, e2⟩ := ih
    constructor
    · conv => lhs; rw [show plU f' = plU (plU f rs.flatten) from by rw [← e1]]
      unfold plU
      simp [List.foldl_append]
    · conv => lhs; rw [show rdU h' = rdU (rdU h rs.flatten) from by rw [← e2]]
      unfold rdU
      simp [List.foldl_append]
end
end U

/-! after_moves, schedule: nothing is raised -/
namespace Law
open PySem PySem.Spec PyProof.Rows L2 U LamX


def spAfter : Sp := fun vs H Q _ => ∃ (st lf mv : Addr) (ord lo : List Str) (f h : Str → Int) (ms : List (Addr × Str × Int)), vs = [.ref st, .ref lf, .ref mv] ∧ H st = some (.dK (kvF ord f)) ∧ H lf = some (.dK (kvF lo h)) ∧ H mv = some (.lst (ms.map fun m => V.ref m.1)) ∧ TupsAt H ms ∧ (∀ m ∈ ms, m.2.1 ∈ ord ∧ m.2.1 ∈ lo) ∧ ord.length ≤ 1000 ∧ lo.length ≤ 1000 ∧
  ∀ (t a b : Addr) (H' : Hp), Same H H' → H a = none → H b = none → H t = none → H' t = some (.tup [.ref a, .ref b]) → H' a = some (.dK (kvF ord (plU f (ms.map (·.2))))) → H' b = some (.dK (kvF lo (rdU h (ms.map (·.2))))) → Q (.ref t) H'
/-- rounds stand -/
def RndsAt (H : Hp) (rs : List (Addr × List (Addr × Str × Int))) : Prop := ∀ r ∈ rs, H r.1 = some (.lst (r.2.map fun m => V.ref m.1)) ∧ TupsAt H r.2
theorem RndsAt.same {H H' : Hp} {rs : List (Addr × List (Addr × Str × Int))} (h : RndsAt H rs) (s : Same H H') : RndsAt H' rs := fun r hr => ⟨s _ _ (h r hr).1, (h r hr).2.same s⟩
section
variable {P : Program} {w : World} {K : PySem.W.Frag} {mg : Str → Option Value} {base : Heap}
structure SCa (P : Program) (w : World) (K : PySem.W.Frag) (mg : Str → Option Value) (base : Heap) : Prop where
  closer_to_zero : Cal P w K mg base CX0 1 "closer_to_zero" spCloser
theorem ok_after {f : Addr} {fd : FuncData} (F : Fun K "after_moves" "after_moves" s_after_moves f fd) (B : Bt mg) (C : SCa P w K mg base) : FnG P w K mg base CX0 2 f fd ["state", "lift", "moves"] spAfter := by
  refine fnG0 F sc_after_moves (fun vs H Q E h => ?_) (fun cdv A outer s H vs Q E hr h => ?_)
  · obtain ⟨st, lf, mv, ord, lo, f, h, ms, rfl, _⟩ := h
    rfl
  · obtain ⟨st, lf, mv, ord, lo, f, h, ms, rfl, hst, hlf, hmv, tm, min, lo1, lo2, q⟩ := h
    have nd := sc_after_moves.nd
    have hu := hr.u1
    refine ⟨_, (pss_cons (ps_set (i := 3) nd rfl (by first | exact Or.inl rfl | exact Or.inr rfl) (pe_callTy cDict (by rfl) B.dict bb_dict (pa_cons (pv 0) pa_nil)))
  (pss_cons (ps_set (i := 4) nd rfl (by first | exact Or.inl rfl | exact Or.inr rfl) (pe_callTy cDict (by rfl) B.dict bb_dict (pa_cons (pv 1) pa_nil)))
  (pss_cons (ps_for PassesOwn.never rfl (ki_list K rfl (pv 2)) (kg_tup (n := 2) K rfl rfl (pgs_cons (pg_name (i := 5) nd rfl (by first | exact Or.inl rfl | exact Or.inr rfl)) (pgs_cons (pg_name (i := 6) nd rfl (by first | exact Or.inl rfl | exact Or.inr rfl)) pgs_nil))) (pss_cons (ps_dput hu (pv 3) (pv 5) (pv 6) rfl)
  (pss_one (ps_dput hu (pv 4) (pv 5) (pe_c C.closer_to_zero hr (by decide) rfl (pa_cons (pe_dget hu (pv 4) (pv 5) (fun _ _ => rfl)) pa_nil)) rfl))))
  (pss_one (ps_ret (pe_tup (pa_cons (pv 3) (pa_cons (pv 4) pa_nil)))))))), ?_⟩
    wtm_at "rd"
    refine ⟨_, .inl hst, fun a fa => ?_⟩
    have s1 := Same.new (o := .dK (kvF ord f)) fa
    have ha := @upd_same H a (.dK (kvF ord f))
    generalize upd H a (.dK (kvF ord f)) = H1 at s1 ha
    wtm_at "rd"
    refine ⟨_, .inl (s1 _ _ hlf), fun b fb => ?_⟩
    have fb0 := new_of_same s1 fb
    have nab := ne_of_none ha fb
    have s2 := same_add (o := .dK (kvF lo h)) s1 fb
    have ha := at_upd (o := .dK (kvF lo h)) nab ha
    have hb := @upd_same H1 b (.dK (kvF lo h))
    generalize upd H1 b (.dK (kvF lo h)) = H2 at s2 ha hb
    wtm_at "rd"
    refine rd_forL (SqL.of (s2 _ _ hmv)) ?_
    refine turnsL (K := K) (xs := ms.map fun m => V.ref m.1) (fun i σ H' => ∃ u5 u6 : Option V, σ = [some (.ref st), some (.ref lf), some (.ref mv), some (.ref a), some (.ref b), u5, u6] ∧ Same H H' ∧ H' a = some (.dK (kvF ord (plU f ((ms.map (·.2)).take i)))) ∧ H' b = some (.dK (kvF lo (rdU h ((ms.map (·.2)).take i))))) ⟨_, _, rfl, s2, ha, hb⟩ ?_ ?_ ?_
    · rintro i σ H' hi ⟨u5, u6, rfl, s, _⟩
      exact SqL.of (s _ _ hmv)
    · rintro i y σ H' hy ⟨u5, u6, rfl, s, ha, hb⟩
      obtain ⟨hi, rfl⟩ := map_at hy
      have mm := List.getElem_mem hi
      have ht := s _ _ (tm _ mm)
      obtain ⟨m1, m2⟩ := min _ mm
      have tk : (ms.map (·.2)).take (i + 1) = (ms.map (·.2)).take i ++ [ms[i].2] := by
        rw [take_snoc (by rw [List.length_map]; exact hi), List.getElem_map]
      rw [tk, plU_snoc, rdU_snoc]
      generalize ms[i] = m at *
      refine rd_unp (SqT.of ht) rfl ?_
      wtm_at "rd"
      refine rd_dset ha (k := .inr m.2.1) rfl (by rw [List.length_map]; omega) ?_
      rw [kvF_put m1]
      wtm_at "rd"
      refine rd_dat (.inl (at_upd (Ne.symm nab) hb)) (kvF_val m2) rfl ?_
      wtm_at "rd"
      refine ⟨_, rfl, ?_⟩
      wtm_at "rd"
      refine rd_dset (at_upd (Ne.symm nab) hb) (k := .inr m.2.1) rfl (by rw [List.length_map]; omega) ?_
      rw [kvF_put m2]
      exact ⟨_, _, rfl, same_put (same_put s fa) fb0, at_upd nab upd_same, upd_same⟩
    · rintro σ H' ⟨u5, u6, rfl, s, ha, hb⟩
      rw [List.length_map, List.take_of_length_le (by rw [List.length_map]; exact Nat.le_refl _)] at ha hb
      wtm_at "rd"
      intro t ft
      have k := Same.new (o := .tup [.ref a, .ref b]) ft
      exact q t a b _ (s.trans k) fa fb0 (new_of_same s ft) upd_same (k _ _ ha) (k _ _ hb)
end
end Law

/-! chains of events bound the rounds of any sequence: the plain law -/
namespace U
open PySem PySem.Spec PyProof.Rows L2
section
variable {ns : List Str} {es : List (Str × Str)} {f h : Str → Int} {pn : List Str}
/-- moves that are possible together -/
structure RoundOk (ns : List Str) (es : List (Str × Str)) (pn : List Str) (f : Str → Int) (r : List (Str × Int)) : Prop where
  leg : ∀ m ∈ r, Legal ns es f pn m
  nd : (r.map (·.1)).Nodup
  ap : ∀ a ∈ r, ∀ b ∈ r, ¬ Adj es a.1 b.1
theorem RoundOk.nil : RoundOk ns es pn f [] := ⟨(fun m h => nomatch h), List.nodup_nil, fun a h => nomatch h⟩
theorem RoundOk.snoc {r : List (Str × Int)} {m : Str × Int} (a : RoundOk ns es pn f r) (l : Legal ns es f pn m) (n : m.1 ∉ r.map (·.1)) (k : ∀ b ∈ r, ¬ Adj es b.1 m.1) (ok : EsOk ns es f) : RoundOk ns es pn f (r ++ [m]) := by
  refine ⟨fun x hx => ?_, ?_, fun x hx y hy z => ?_⟩
  · rcases List.mem_append.mp hx with hx | hx
    · exact a.leg x hx
    · rw [List.mem_singleton.mp hx]
      exact l
  · rw [List.map_append, List.nodup_append]
    refine ⟨a.nd, by simp, fun x hx y hy e => ?_⟩
    have hy : y = m.1 := List.mem_singleton.mp hy
    rw [e, hy] at hx
    exact n hx
  · rcases List.mem_append.mp hx with hx | hx <;> rcases List.mem_append.mp hy with hy | hy
    · exact a.ap x hx y hy z
    · rw [List.mem_singleton.mp hy] at z
      exact k x hx z
    · rw [List.mem_singleton.mp hx] at z
      exact k y hy z.symm
    · rw [List.mem_singleton.mp hx, List.mem_singleton.mp hy] at z
      exact (adj_in ok z).2.2.2 rfl
/-- the events for which an event waits -/
def depF (es : List (Str × Str)) (f h : Str → Int) (n : Str) (k : Int) : List (Str × Int) :=
  ((n, k - 1) :: (nbS es n).map fun m => (m, if (decide (slp f n m = -1) == decide (0 < h n)) = true then k else k - 1)).filter fun e => decide (0 < e.2)
def evOk (ns : List Str) (h : Str → Int) (e : Str × Int) : Prop := e.1 ∈ ns ∧ 1 ≤ e.2 ∧ e.2 ≤ ((h e.1).natAbs : Int)
def ChainP (ns : List Str) (es : List (Str × Str)) (f h : Str → Int) (evs : List (Str × Int)) : Prop := ∀ j (hj : j < evs.length), evOk ns h evs[j] ∧ ∀ i (hi : i + 1 = j), evs[i] ∈ depF es f h evs[j].1 evs[j].2
end
end U

/-! a pair among pairs; lists of lists of texts -/
namespace U
open PySem PySem.Spec PyProof.Rows L2
theorem kNinL {X : Cx} (K : PySem.W.Frag) (hK : X.K = K) (hu : X.A.units + 65 < cLine) : OpR X (compareOp .NotIn) (rNotInD K) := by
  subst hK
  exact op_notInD hu
abbrev dE (e : Str × Str) : PyData := .tuple [.str e.1, .str e.2]
theorem dp_edges {K : PySem.W.Frag} {H : Hp} : ∀ {es : List (Addr × Str × Str)}, (∀ x ∈ es, SqT K H x.1 [.str x.2.1, .str x.2.2]) → DpAll K H (es.map fun x => V.ref x.1) ((es.map (·.2)).map dE)
  | [], _ => .nil
  | x :: r, h => .cons (.tup (h x List.mem_cons_self) (.cons (.str _) (.cons (.str _) .nil))) (dp_edges fun y hy => h y (List.mem_cons_of_mem _ hy))
theorem can_edges : ∀ {es : List (Str × Str)}, (∀ e ∈ es, PyData.strOk e.1 = true ∧ PyData.strOk e.2 = true) → PyData.canLayAll0 (es.map dE) = true ∧ PyData.depthAll (es.map dE) ≤ 1
  | [], _ => by simp [PyData.canLayAll0, PyData.depthAll]
  | e :: r, h => by
    obtain ⟨a, b⟩ := can_edges (es := r) fun y hy => h y (List.mem_cons_of_mem _ hy)
    obtain ⟨h1, h2⟩ := h e List.mem_cons_self
    have c : (dE e).canLay0 = true := by simp [dE, PyData.canLay0, PyData.canLayAll0, h1, h2]
    have d : (dE e).depth = 1 := by simp [dE, PyData.depth, PyData.depthAll]
    rw [List.map_cons, PyData.canLayAll0, PyData.depthAll, a, c, d]
    exact ⟨rfl, by omega⟩
/-! lists of lists of texts -/
end U

/-! dependencies, is_event, is_chain -/
namespace U
open PySem PySem.Spec PyProof.Rows L2
theorem ChainP.pre {ns : List Str} {es : List (Str × Str)} {f h : Str → Int} {a b : List (Str × Int)} (c : ChainP ns es f h (a ++ b)) : ChainP ns es f h a := fun j hj => by
  obtain ⟨c1, c2⟩ := c j (by rw [List.length_append]; omega)
  rw [List.getElem_append_left hj] at c1 c2
  refine ⟨c1, fun i hi => ?_⟩
  have := c2 i hi
  rw [List.getElem_append_left (by omega)] at this
  exact this
theorem ChainP.nil {ns : List Str} {es : List (Str × Str)} {f h : Str → Int} : ChainP ns es f h [] := fun j hj => absurd hj (Nat.not_lt_zero _)
theorem ChainP.snoc {ns : List Str} {es : List (Str × Str)} {f h : Str → Int} {a : List (Str × Int)} {e : Str × Int} (c : ChainP ns es f h a) (o : evOk ns h e) (d : ∀ i (hi : i + 1 = a.length), a[i] ∈ depF es f h e.1 e.2) : ChainP ns es f h (a ++ [e]) := fun j hj => by
  rw [List.length_append, List.length_singleton] at hj
  by_cases z : j < a.length
  · rw [List.getElem_append_left z]
    obtain ⟨c1, c2⟩ := c j z
    refine ⟨c1, fun i hi => ?_⟩
    rw [List.getElem_append_left (by omega)]
    exact c2 i hi
  · obtain rfl : j = a.length := by omega
    rw [List.getElem_append_right (Nat.le_refl _)]
    simp only [Nat.sub_self, List.getElem_cons_zero]
    refine ⟨o, fun i hi => ?_⟩
    rw [List.getElem_append_left (by omega)]
    exact d i hi
end U
namespace Law
open PySem PySem.Spec PyProof.Rows L2 U LamX


def spChk0 (K : PySem.W.Frag) : Sp := fun vs H Q _ => ∃ (g n e : Addr) (x : Str) (ns : List Str) (es : List (Addr × Str × Str)), vs = [.ref g, .str x] ∧ GrAt H g n e ns es ∧ x ∈ ns ∧ Q .non H
section
variable {P : Program} {w : World} {K : PySem.W.Frag} {mg : Str → Option Value} {base : Heap}
structure DPa (P : Program) (w : World) (K : PySem.W.Frag) (mg : Str → Option Value) (base : Heap) : Prop where
  has_node : Cal P w K mg base CX0 1 "has_node" (spHasV K)
theorem ok_chk0 {f : Addr} {fd : FuncData} (F : Fun K "check_node" "check_node" s_check_node f fd) (B : Bt mg) (C : DPa P w K mg base) : FnG P w K mg base CX0 2 f fd ["graph", "candidate"] (spChk0 K) := by
  refine fnG0 F sc_check_node (fun vs H Q E h => ?_) (fun cdv A outer s H vs Q E hr h => ?_)
  · obtain ⟨g, n, e, x, ns, es, rfl, _⟩ := h
    rfl
  · obtain ⟨g, n, e, x, ns, es, rfl, hg, hx, q⟩ := h
    have nd := sc_check_node.nd
    refine ⟨_, (pss_one (ps_if (pt_not (pt_val (pe_c C.has_node hr (by decide) rfl (pa_cons (pv 0) (pa_cons (pv 1) pa_nil))))) (pss_one ps_dead) pss_nil)), ?_⟩
    wtm_at "rd"
    refine ⟨g, n, e, .str x, .str, ns, es, rfl, hg, .inr ⟨x, rfl, ?_⟩⟩
    rw [decide_eq_true hx]
    wtm_at "rd"
    exact q
end
end Law

/-! frozen nodes: the plain law -/
namespace U
open PySem PySem.Spec PyProof.Rows L2
section
variable {ns : List Str} {es : List (Str × Str)} {f : Str → Int} {pn : List Str} {m : Str × Int}
end
end U

/-! cheapest paths: the plain law -/
namespace U
open PySem PySem.Spec PyProof.Rows L2 PySem.W
/-- what the steps of a path cost together -/
def ctF (w : Str → Str → Nat) : List Str → Nat
  | x :: y :: r => w x y + ctF w (y :: r)
  | _ => 0
section
variable {w : Str → Str → Nat}
theorem ctF_join : ∀ {p r : List Str} {x : Str}, p.getLast? = some x → ctF w (p ++ r) = ctF w p + ctF w (x :: r)
  | [], _, _, h => nomatch h
  | [a], r, x, h => by
    have : a = x := by simpa using h
    subst this
    show _ = 0 + _
    rw [Nat.zero_add]
    rfl
  | a :: b :: q, r, x, h => by
    have h' : (b :: q).getLast? = some x := by rw [List.getLast?_cons_cons] at h; exact h
    have ih := ctF_join (p := b :: q) (r := r) h'
    show w a b + ctF w (b :: q ++ r) = w a b + ctF w (b :: q) + _
    rw [ih]
    omega
theorem ctF_snoc {p : List Str} {x o : Str} (h : p.getLast? = some x) : ctF w (p ++ [o]) = ctF w p + w x o := by
  rw [ctF_join h]
  rfl
end
/-! ### ranks -/
def dRk (c : Nat) (p : List Str) : PyData := .tuple [.int c, .int p.length, .list (p.map PyData.str)]
def rl (w : Str → Str → Nat) (p q : List Str) : Bool := dataLt (dRk (ctF w p) p) (dRk (ctF w q) q)
section
variable {w : Str → Str → Nat} {p q r : List Str}
theorem rl_irrefl : rl w p p = false := lex_irrefl _
theorem rl_less (h : ctF w p < ctF w q ∨ (ctF w p = ctF w q ∧ p.length < q.length)) : rl w p q = true := by
  unfold rl dRk
  rw [dataLt_tuple]
  rcases h with h | ⟨e, h⟩
  · rw [dataLt_all_no (by simp [alike]) (by simp [PyData.eqv]; omega), dataLt_int]
    exact decide_eq_true (by omega)
  · rw [dataLt_all_yes (by simp [alike]) (by simp [PyData.eqv]; omega), dataLt_all_no (by simp [alike]) (by simp [PyData.eqv]; omega), dataLt_int]
    exact decide_eq_true (by omega)
theorem rl_cost (h : rl w p q = false) : ctF w q ≤ ctF w p := by
  by_cases z : ctF w p < ctF w q
  · rw [rl_less (.inl z)] at h
    cases h
  · omega
end
/-! ### all arrangements -/
/-! ### the paths found -/
structure ChS (ns : List Str) (es : List (Str × Str)) (w : Str → Str → Nat) (src ks : List Str) (P : Str → List Str) (qu : List Str) (pend : Str → Str → Prop) : Prop where
  nd : ks.Nodup
  inN : ∀ x ∈ ks, x ∈ ns
  sv : ∀ x ∈ src, x ∈ ks ∧ rl w [x] (P x) = false
  wk : ∀ x ∈ ks, Wk es (P x)
  hd : ∀ x ∈ ks, ∃ s ∈ src, (P x).head? = some s
  ls : ∀ x ∈ ks, (P x).getLast? = some x
  ndp : ∀ x ∈ ks, (P x).Nodup
  pin : ∀ x ∈ ks, ∀ y ∈ P x, y ∈ ns
  pre : ∀ x ∈ ks, ∀ a r, P x = a ++ r → ∀ z, a.getLast? = some z → z ∈ ks ∧ rl w a (P z) = false
  qin : ∀ x ∈ qu, x ∈ ks
  cl : ∀ x ∈ ks, ∀ o, Adj es x o → x ∈ qu ∨ pend x o ∨ (o ∈ ks ∧ rl w (P x ++ [o]) (P o) = false)
section
variable {ns : List Str} {es : List (Str × Str)} {f : Str → Int} {w : Str → Str → Nat} {src ks : List Str} {P : Str → List Str} {qu : List Str} {pend pend' : Str → Str → Prop}
theorem ChS.start (nd : src.Nodup) (hin : ∀ x ∈ src, x ∈ ns) : ChS ns es w src src (fun x => [x]) src (fun _ _ => False) := by
  refine ⟨nd, hin, fun x hx => ⟨hx, rl_irrefl⟩, fun _ _ => trivial, fun x hx => ⟨x, hx, rfl⟩, fun _ _ => rfl, fun x _ => by simp, fun x hx y hy => ?_, fun x hx a r e z hz => ?_, fun _ h => h, fun x hx o _ => .inl hx⟩
  · rw [List.mem_singleton.mp hy]
    exact hin x hx
  · cases a with
    | nil => cases hz
    | cons b a =>
      rw [List.cons_append] at e
      obtain ⟨rfl, e2⟩ := List.cons.inj e
      obtain ⟨rfl, rfl⟩ := List.append_eq_nil_iff.mp e2.symm
      cases hz
      exact ⟨hx, rl_irrefl⟩
theorem ChS.weak (c : ChS ns es w src ks P qu pend) {qu' : List Str} {pend' : Str → Str → Prop} (hq : ∀ x ∈ qu', x ∈ ks) (h : ∀ x ∈ ks, ∀ o, Adj es x o → (x ∈ qu ∨ pend x o) → x ∈ qu' ∨ pend' x o ∨ (o ∈ ks ∧ rl w (P x ++ [o]) (P o) = false)) : ChS ns es w src ks P qu' pend' :=
  ⟨c.nd, c.inN, c.sv, c.wk, c.hd, c.ls, c.ndp, c.pin, c.pre, hq, fun x hx o a => by
    rcases c.cl x hx o a with z | z | z
    · exact h x hx o a (.inl z)
    · exact h x hx o a (.inr z)
    · exact .inr (.inr z)⟩
/-- c is what the cheapest way from src to x costs -/
structure MinC (es : List (Str × Str)) (w : Str → Str → Nat) (src : List Str) (x : Str) (c : Nat) : Prop where
  ex : ∃ q, ∃ s ∈ src, Wk es q ∧ q.head? = some s ∧ q.getLast? = some x ∧ ctF w q = c
  le : ∀ q, ∀ s ∈ src, Wk es q → q.head? = some s → q.getLast? = some x → c ≤ ctF w q
/-- what is found at the end -/
theorem ChS.fin (c : ChS ns es w src ks P [] (fun _ _ => False)) : (∀ x ∈ ks, MinC es w src x (ctF w (P x))) ∧ ∀ q, ∀ s ∈ src, Wk es q → q.head? = some s → ∀ x, q.getLast? = some x → x ∈ ks := by
  have key : ∀ (r : List Str) (a : Str), a ∈ ks → Wk es (a :: r) → ∀ y, (a :: r).getLast? = some y → y ∈ ks ∧ ctF w (P y) ≤ ctF w (P a) + ctF w (a :: r) := by
    intro r
    induction r with
    | nil =>
      intro a ha _ y hy
      have : a = y := by simpa using hy
      subst this
      exact ⟨ha, Nat.le_add_right _ _⟩
    | cons b r ih =>
      intro a ha wk y hy
      rw [List.getLast?_cons_cons] at hy
      rcases c.cl a ha b wk.1 with h | h | ⟨h1, h2⟩
      · cases h
      · exact h.elim
      · obtain ⟨y1, y2⟩ := ih b h1 wk.2 y hy
        have k1 := rl_cost h2
        rw [ctF_snoc (c.ls a ha)] at k1
        refine ⟨y1, ?_⟩
        show _ ≤ ctF w (P a) + (w a b + ctF w (b :: r))
        omega
  have all : ∀ q, ∀ s ∈ src, Wk es q → q.head? = some s → ∀ x, q.getLast? = some x → x ∈ ks ∧ ctF w (P x) ≤ ctF w q := fun q s hs wk hq x hx => by
    cases q with
    | nil => cases hq
    | cons a r =>
      obtain rfl : a = s := Option.some.inj hq
      obtain ⟨s1, s2⟩ := c.sv a hs
      obtain ⟨y1, y2⟩ := key r a s1 wk x hx
      have := rl_cost s2
      have e0 : ctF w [a] = 0 := rfl
      exact ⟨y1, by omega⟩
  refine ⟨fun x hx => ⟨?_, fun q s hs wk hq hl => (all q s hs wk hq x hl).2⟩, fun q s hs wk hq x hl => (all q s hs wk hq x hl).1⟩
  obtain ⟨s, hs, e⟩ := c.hd x hx
  exact ⟨P x, s, hs, c.wk x hx, e, c.ls x hx, rfl⟩
end
end U

/-! _law_unused_name: a letter that names no node -/
namespace U
open PySem PySem.Spec PyProof.Rows L2
def chS (c : Nat) : Str := ⟨#[c]⟩
end U
namespace Law
open PySem PySem.Spec PyProof.Rows L2 U


def abcS : Str := "abcdefghijklmnopqrstuvwxyz"
theorem abc_cps : abcS.cps.toList = (List.range 26).map (· + 97) := by decide +kernel
theorem chS_inj {a b : Nat} (h : chS a = chS b) : a = b := by
  have h1 : (chS a).cps = (chS b).cps := congrArg Str.cps h
  have h2 : (#[a] : Array Nat).toList = (#[b] : Array Nat).toList := congrArg Array.toList h1
  exact List.head_eq_of_cons_eq h2
theorem letter_left {ns : List Str} (l : ns.length ≤ 25) : ∃ x r, ((abcS.cps.toList.map chS).filter fun x => !decide (x ∈ ns)) = x :: r ∧ x ∉ ns ∧ IsName x := by
  cases h : (abcS.cps.toList.map chS).filter fun x => !decide (x ∈ ns) with
  | nil =>
    have all : ∀ x ∈ abcS.cps.toList.map chS, x ∈ ns := fun x hx => by
      have := List.filter_eq_nil_iff.mp h x hx
      simpa using this
    have nd : (abcS.cps.toList.map chS).Nodup := by
      rw [abc_cps, List.map_map]
      refine List.pairwise_map.mpr ((List.nodup_range (n := 26)).imp fun {a b} n e => n ?_)
      have : a + 97 = b + 97 := chS_inj e
      omega
    have := nodup_len nd all
    rw [List.length_map, abc_cps, List.length_map, List.length_range] at this
    omega
  | cons x r =>
    have m : x ∈ (abcS.cps.toList.map chS).filter fun x => !decide (x ∈ ns) := by
      rw [h]
      exact List.mem_cons_self
    obtain ⟨m1, m2⟩ := List.mem_filter.mp m
    refine ⟨x, r, rfl, by simpa using m2, ?_⟩
    obtain ⟨c, hc, rfl⟩ := List.mem_map.mp m1
    rw [abc_cps] at hc
    obtain ⟨j, hj, rfl⟩ := List.mem_map.mp hc
    have := List.mem_range.mp hj
    refine ⟨Nat.le_refl _, by show 1 ≤ 8; decide, fun z hz => ?_⟩
    have e : z = j + 97 := by simpa [chS] using hz
    omega
section
variable {P : Program} {w : World} {K : PySem.W.Frag} {mg : Str → Option Value} {base : Heap}
end
end Law

/-! tuples of numbers compared; a pair in a tuple of pairs; numbers == [] -/
namespace U
open PySem PySem.Spec PyProof.Rows L2
section
variable {K : PySem.W.Frag} {H : Hp} {Q : VK} {p q : Addr} {xs ys : List Int}
end
end U

/-! sorted(d) where d's keys are tuples of numbers -/
namespace U
open PySem PySem.Spec PyProof.Rows L2
section
variable {X : Cx}
end
end U

/-! sorted(a tuple of texts) -/
namespace U
open PySem PySem.Spec PyProof.Rows L2
section
variable {X : Cx}
end
section
variable {X : Cx} (K : PySem.W.Frag) (hK : X.K = K)
include hK
end
end U

/-! zip(list, list) -/
namespace U
open PySem PySem.Spec PyProof.Rows L2
theorem plainIs {h : Heap} {a : Addr} {its : Array Value} (p : PlainL h a its) : h.IsList a its := by
  obtain ⟨o, n, h1, h2, _, h3⟩ := p
  exact ⟨o, h1, h2, n, h3⟩
theorem off_iterL {h : Heap} {a it : Addr} {items : Array Value} {i : Nat} (ht : h.IsList a items) (hi : h.IsListIter it a i) : a ≠ it := by
  rintro rfl
  obtain ⟨o, ho, hc, _⟩ := ht
  obtain ⟨o2, ho2, hc2, _⟩ := hi
  rw [ho] at ho2
  cases ho2
  rw [hc] at hc2
  simp at hc2
/-- the lists at a and b, the items in new pairs -/
def ItzL (K : PySem.W.Frag) (a b : Addr) : It :=
  ⟨fun i H => ∃ (xs ys : List V) (x y : V), SqL K H a xs ∧ SqL K H b ys ∧ xs[i]? = some x ∧ ys[i]? = some y,
    fun i H v H' => ∃ T x y, v = .ref T ∧ H T = none ∧ H' = upd H T (.tup [x, y]) ∧ (∀ xs, SqL K H a xs → xs[i]? = some x) ∧ ∀ ys, SqL K H b ys → ys[i]? = some y,
    fun i H => ∃ xs ys : List V, SqL K H a xs ∧ SqL K H b ys ∧ i ≤ xs.length ∧ i ≤ ys.length ∧ (i = xs.length ∨ i = ys.length)⟩
theorem turn_zipL {P : Program} {w : World} {K : PySem.W.Frag} {elts : List Expr} {kk : Nat} {tpos : Pos} {a b z TI TO i1 i2 : Addr} (D : ZipSep2 z TI TO i1 i2 [i1, a] [i2, b]) :
    Turn P w K (.Tuple elts kk tpos) (ItzL K a b) [z, TI, TO, i1, i2] z (fun i h => IsZip h z TI TO .none ∧ IsTupOf2 h TI (.ref i1) (.ref i2) ∧ (∃ x y, IsTupOf2 h TO x y) ∧ h.IsListIter i1 a i ∧ h.IsListIter i2 b i) where
  mem := by simp
  obj := fun i h st c hc => by
    obtain ⟨hz, hTI, ⟨x, y, hTO⟩, ⟨o1, e1, _, d1⟩, ⟨o2, e2, _, d2⟩⟩ := st
    have e' : c = z ∨ c = TI ∨ c = TO ∨ c = i1 ∨ c = i2 := by simpa using hc
    rcases e' with q | q | q | q | q
    · rw [q]; exact ⟨_, hz, fun v q => nomatch q⟩
    · rw [q]; exact ⟨_, hTI, fun v q => nomatch q⟩
    · rw [q]; exact ⟨_, hTO, fun v q => nomatch q⟩
    · rw [q]; exact ⟨o1, e1, fun v q => by rw [d1] at q; cases q⟩
    · rw [q]; exact ⟨o2, e2, fun v q => by rw [d2] at q; cases q⟩
  keep := fun i h h' st k => by
    obtain ⟨hz, hTI, ⟨x, y, hTO⟩, h1, h2⟩ := st
    exact ⟨k z (by simp) _ hz, k TI (by simp) _ hTI, ⟨x, y, k TO (by simp) _ hTO⟩, h1.at fun o q => k i1 (by simp) o q, h2.at fun o q => k i2 (by simp) o q⟩
  item := by
    intro X hP hw hK hc i pins s σ H E I hf st hg
    subst hP hw hK
    obtain ⟨hz, hTI, ⟨x0, y0, hTO⟩, h1, h2⟩ := st
    obtain ⟨xs, ys, x, y, hqx, hqy, hx, hy⟩ := hg
    obtain ⟨its, rv, p, _⟩ := I.list hqx
    obtain ⟨its2, rv2, p2, _⟩ := I.list hqy
    obtain ⟨u, hu, ru⟩ := rv.get hx
    obtain ⟨u2, hu2, ru2⟩ := rv2.get hy
    have ht : s.heap.IsList a its.toArray := plainIs p
    have ht2 : s.heap.IsList b its2.toArray := plainIs p2
    have hzl : z < s.heap.objs.size := Heap.lt_size hz
    have hl1 : i < its.toArray.size := by
      rw [List.size_toArray]
      exact (List.getElem?_eq_some_iff.mp hu).1
    have hl2 : i < its2.toArray.size := by
      rw [List.size_toArray]
      exact (List.getElem?_eq_some_iff.mp hu2).1
    refine wpAny_pyNext_zipD2_item D (Draws.list (A := X.A.in1) (I.ok.hd hc) i1 a (off_iterL ht h1) its.toArray) (Draws.list (A := X.A.in1) (I.ok.hd hc) i2 b (off_iterL ht2 h2) its2.toArray) hz hTI hTO ⟨h1, ht⟩ ⟨h2, ht2⟩ hl1 hl2
      fun x1 x2 h' tk q1 q2 z' TO' st1 st2 hT hsz hk => ?_
    have e1 : x1 = u := by
      have q : its.toArray[i]? = some x1 := q1
      rw [List.getElem?_toArray, hu] at q
      exact (Option.some.inj q).symm
    have e2 : x2 = u2 := by
      have q : its2.toArray[i]? = some x2 := q2
      rw [List.getElem?_toArray, hu2] at q
      exact (Option.some.inj q).symm
    subst e1 e2
    refine ⟨_, rfl, wpAny_letOwnedTupleGo_zip (s := { s with heap := h', toks := tk }) z' fun h'' z'' sb => ?_⟩
    have hT2 : h''.get? s.heap.objs.size = some { cls := .type "tuple", data := .seq #[x1, x2] } := (sb.2 _ (Nat.ne_of_gt hzl)).trans hT
    have new : ObjOk X.prog X.w (upd H s.heap.objs.size (.tup [x, y])) h'' s.heap.objs.size (.tup [x, y]) :=
      ⟨by show 2 ≤ sizeLine; decide, [x1, x2], .cons ru (.cons ru2 .nil), ⟨_, hT2, rfl, _, rfl⟩⟩
    have I1 : Inv X pins σ (upd H s.heap.objs.size (.tup [x, y])) { s with heap := h'', toks := tk } :=
      I.turnedNew (ch := [z, TI, TO, i1, i2]) (fun c o hb q => (sb.2 c (fun q' => hb (by simp [q']))).trans (hk c o (fun q' => hb (by simp [q'])) (fun q' => hb (by simp [q'])) (fun q' => hb (by simp [q'])) (fun q' => hb (by simp [q'])) q)) hf (Nat.le_refl _) new
    refine ⟨.ref s.heap.objs.size, _, I1, rfl, ⟨_, x, y, rfl, I.hok.fresh (Nat.le_refl _), rfl, fun l hl => by rw [I.list_inj hl hqx]; exact hx, fun l hl => by rw [I.list_inj hl hqy]; exact hy⟩, ⟨z'', ?_, ⟨x1, x2, ?_⟩, ?_, ?_⟩, fun c hcm => ?_⟩
    · exact (sb.2 _ D.TIz).trans (hk _ _ D.TIz D.TITO D.TIi1 D.TIi2 hTI)
    · exact (sb.2 _ D.TOz).trans TO'
    · exact st1.1.at fun o q => (sb.2 _ (Ne.symm D.zi1)).trans q
    · exact st2.1.at fun o q => (sb.2 _ (Ne.symm D.zi2)).trans q
    · have hlt : c < s.heap.objs.size := by
        have e' : c = z ∨ c = TI ∨ c = TO ∨ c = i1 ∨ c = i2 := by simpa using hcm
        rcases e' with q | q | q | q | q
        · rw [q]; exact hzl
        · rw [q]; exact Heap.lt_size hTI
        · rw [q]; exact Heap.lt_size hTO
        · rw [q]; obtain ⟨_, e1, _⟩ := h1; exact Heap.lt_size e1
        · rw [q]; obtain ⟨_, e2, _⟩ := h2; exact Heap.lt_size e2
      rw [upd_ne (Nat.ne_of_lt hlt)]
      exact (hf c hcm).1
  done := by
    intro X hP hw hK hc i pins s σ H E I hf st hg
    subst hP hw hK
    obtain ⟨hz, hTI, ⟨x0, y0, hTO⟩, h1, h2⟩ := st
    obtain ⟨xs, ys, hqx, hqy, l1, l2, hend⟩ := hg
    obtain ⟨its, rv, p, _⟩ := I.list hqx
    obtain ⟨its2, rv2, p2, _⟩ := I.list hqy
    have ht : s.heap.IsList a its.toArray := plainIs p
    have ht2 : s.heap.IsList b its2.toArray := plainIs p2
    have n1 : its.toArray.size = xs.length := by rw [List.size_toArray, rv.length]
    have n2 : its2.toArray.size = ys.length := by rw [List.size_toArray, rv2.length]
    exact wpAny_pyNext_zipD2_end D (Draws.list (A := X.A.in1) (I.ok.hd hc) i1 a (off_iterL ht h1) its.toArray) (Draws.list (A := X.A.in1) (I.ok.hd hc) i2 b (off_iterL ht2 h2) its2.toArray) hz hTI hTO ⟨h1, ht⟩ ⟨h2, ht2⟩ (by omega) (by omega) (by omega)
      fun h' tk hk => ⟨rfl, I.turnedL (t' := tk) (ch := [z, TI, TO, i1, i2]) (fun c o hb q =>
      hk c o (fun q' => hb (by simp [q'])) (fun q' => hb (by simp [q'])) (fun q' => hb (by simp [q'])) (fun q' => hb (by simp [q'])) q) hf⟩
  self := fun A i s Q E st h => wpAny_pyIter_zip st.1 h
def iZipL (K : PySem.W.Frag) (ta : TA) : TI := fun σ H R => ta σ H fun vs H1 => ∃ a b xs ys, vs = [.ref a, .ref b] ∧ SqL K H1 a xs ∧ SqL K H1 b ys ∧ R (ItzL K a b) H1
theorem ki_zipL {X : Cx} (K : PySem.W.Frag) (hK : X.K = K) {e e2 : Expr} {ta : TA} {p pos tpos : Pos} {elts : List Expr} {kk : Nat} (hg : Gl X "zip") (hm : X.mg "zip" = none) (ha : PA X [e, e2] ta)
    (hs : starEach [e, e2] X.env = (false, eval e X.env) :: starEach [e2] X.env := by rfl) (hpl : (backTo pos (starEach [e2] X.env)).any (·.1) = false := by rfl) :
    PI X (.Tuple elts kk tpos) (.Call (.Name "zip" p) [e, e2] [] pos) (iZipL K ta) := by
  subst hK
  refine ⟨fun pins s σ H R I h => ?_⟩
  refine Call_ (ld_blt I hg hm PyProof.Rows.boot_zip (PyProof.Rows.callWith_type1 (thn (ha.run pos pins s σ H _ I h) fun us s1 ⟨vs, H1, I1, r1, q1⟩ => ?_) hs hpl))
  obtain ⟨a, b, xs, ys, ex, hqx, hqy, q⟩ := q1
  subst ex
  cases r1 with
  | cons r rr =>
    cases rr with
    | cons r' rr =>
      cases rr
      cases r
      cases r'
      obtain ⟨its, rv, p1, _⟩ := I1.list hqx
      obtain ⟨its2, rv2, p2, _⟩ := I1.list hqy
      have t1 : s1.heap.IsList a its.toArray := plainIs p1
      have t2 : s1.heap.IsList b its2.toArray := plainIs p2
      have la : a < s1.heap.objs.size := by
        obtain ⟨_, e, _⟩ := t1
        exact Heap.lt_size e
      have lb : b < s1.heap.objs.size := by
        obtain ⟨_, e, _⟩ := t2
        exact Heap.lt_size e
      refine zip_begins2 (begins_list a its.toArray) (begins_list b its2.toArray) t1 t2 fun h' hz hTI hTO h1 h2 hsz hk => wpAny_pyIter_zip hz ?_
      have I2 : Inv X pins σ H1 { s1 with heap := h' } := I1.kept (t' := s1.toks) hk
      have sep : ZipSep2 (s1.heap.objs.size + 4) (s1.heap.objs.size + 2) (s1.heap.objs.size + 3) s1.heap.objs.size (s1.heap.objs.size + 1) [s1.heap.objs.size, a] [s1.heap.objs.size + 1, b] := by
        have la : (a : Nat) < s1.heap.objs.size := la
        have lb : (b : Nat) < s1.heap.objs.size := lb
        generalize s1.heap.objs.size = n at *
        have nm : ∀ {c i a : Nat}, c ≠ i → c ≠ a → c ∉ [i, a] := fun h1 h2 z => by
          rcases List.mem_cons.mp z with z | z
          · exact h1 z
          · exact h2 (List.mem_singleton.mp z)
        have l (k : Nat) (x : Nat) (h : x < n) : n + k ≠ x := by omega
        exact ⟨Nat.ne_of_lt (by omega), Nat.ne_of_lt (by omega), Nat.ne_of_lt (by omega), Nat.ne_of_gt (by omega), List.mem_cons_self, nm (Nat.ne_of_gt (by omega)) (l 4 a la), nm (Nat.ne_of_gt (by omega)) (l 3 a la), Nat.ne_of_gt (by omega), List.mem_cons_self, nm (Nat.ne_of_gt (by omega)) (l 4 b lb), nm (Nat.ne_of_gt (by omega)) (l 3 b lb), nm (Nat.ne_of_lt (by omega)) (l 0 b lb), nm (Nat.ne_of_gt (by omega)) (l 1 a la)⟩
      refine ⟨s1.heap.objs.size + 4, [s1.heap.objs.size + 4, s1.heap.objs.size + 2, s1.heap.objs.size + 3, s1.heap.objs.size, s1.heap.objs.size + 1], _, _, H1, rfl, I2, turn_zipL sep, ⟨hz, hTI, ⟨_, _, hTO⟩, ⟨_, h1, rfl, rfl⟩, ⟨_, h2, rfl, rfl⟩⟩, fun c hcm => ?_, q⟩
      have e' : c = s1.heap.objs.size + 4 ∨ c = s1.heap.objs.size + 2 ∨ c = s1.heap.objs.size + 3 ∨ c = s1.heap.objs.size ∨ c = s1.heap.objs.size + 1 := by simpa using hcm
      have hle : s1.heap.objs.size ≤ c := by
        rcases e' with z | z | z | z | z
        · rw [z]; exact Nat.le_add_right _ _
        · rw [z]; exact Nat.le_add_right _ _
        · rw [z]; exact Nat.le_add_right _ _
        · rw [z]; exact Nat.le_refl _
        · rw [z]; exact Nat.le_add_right _ _
      exact I1.fpOk hle (I1.hok.fresh hle)
theorem walk_zipL {K : PySem.W.Frag} {a b : Addr} {xs ys : List V} (l : xs.length = ys.length) : Walk (ItzL K a b) xs.length (fun H => SqL K H a xs ∧ SqL K H b ys) (YPair (fun i => xs[i]?) (fun i => ys[i]?)) := by
  refine ⟨fun i _ hi q => ⟨xs, ys, xs[i], ys[i]'(by omega), q.1, q.2, by simp [hi], by rw [List.getElem?_eq_getElem]⟩, fun _ q => ⟨xs, ys, q.1, q.2, Nat.le_refl _, by omega, .inl rfl⟩, fun i H v H' _ q y => ?_⟩
  obtain ⟨T, x, y, h1, h2, h3, h4, h5⟩ := y
  exact ⟨T, x, y, h1, h2, h3, h4 xs q.1, h5 ys q.2⟩
end U

/-! a random problem: the graph, the state, the pins -/
namespace U
open PySem PySem.Spec PyProof.Rows L2
abbrev dP (e : Int × Int) : PyData := .tuple [.int e.1, .int e.2]
theorem eqv_dP {a b : Int × Int} : PyData.eqv (dP a) (dP b) = decide (a = b) := by
  obtain ⟨a1, a2⟩ := a
  obtain ⟨b1, b2⟩ := b
  rw [Bool.eq_iff_iff]
  simp [dP, PyData.eqv, PyData.eqvAll]
theorem any_dP {es : List (Int × Int)} {e : Int × Int} : ((es.map dP).any fun z => PyData.eqv z (dP e)) = decide (e ∈ es) := by
  rw [Bool.eq_iff_iff, List.any_eq_true, decide_eq_true_iff]
  constructor
  · rintro ⟨z, hz, h⟩
    obtain ⟨y, hy, rfl⟩ := List.mem_map.mp hz
    rw [eqv_dP, decide_eq_true_iff] at h
    rw [← h]
    exact hy
  · intro h
    exact ⟨_, List.mem_map_of_mem h, by rw [eqv_dP]; exact decide_eq_true rfl⟩
theorem dp_prs {K : PySem.W.Frag} {H : Hp} : ∀ {es : List (Addr × Int × Int)}, (∀ x ∈ es, SqT K H x.1 [.int x.2.1, .int x.2.2]) → DpAll K H (es.map fun x => V.ref x.1) ((es.map (·.2)).map dP)
  | [], _ => .nil
  | x :: r, h => .cons (.tup (h x List.mem_cons_self) (.cons (.int _) (.cons (.int _) .nil))) (dp_prs fun y hy => h y (List.mem_cons_of_mem _ hy))
theorem can_prs : ∀ {es : List (Int × Int)}, PyData.canLayAll0 (es.map dP) = true ∧ PyData.depthAll (es.map dP) ≤ 1
  | [] => by simp [PyData.canLayAll0, PyData.depthAll]
  | e :: r => by
    obtain ⟨a, b⟩ := can_prs (es := r)
    have c : (dP e).canLay0 = true := by simp [dP, PyData.canLay0, PyData.canLayAll0]
    have d : (dP e).depth = 1 := by simp [dP, PyData.depth, PyData.depthAll]
    rw [List.map_cons, PyData.canLayAll0, PyData.depthAll, a, c, d]
    exact ⟨rfl, by omega⟩
theorem rd_ninLP {K : PySem.W.Frag} {H : Hp} {Q : VK} {p q : Addr} {e : Int × Int} {es : List (Addr × Int × Int)} (hp : SqT K H p [.int e.1, .int e.2]) (hq : SqL K H q (es.map fun x => V.ref x.1)) (pr : ∀ x ∈ es, SqT K H x.1 [.int x.2.1, .int x.2.2])
    (h : Q (.bl (!decide (e ∈ es.map (·.2)))) H) : rNotInD K (.ref p) (.ref q) H Q := by
  refine ⟨dP e, _, .tup hp (.cons (.int _) (.cons (.int _) .nil)), .lst hq (dp_prs pr), ?_, ?_, ?_⟩
  · unfold SeqAt.shaped
    simp [dP, PyData.canLay0, PyData.canLayAll0, PyData.depth, PyData.depthAll]
  · obtain ⟨a, b⟩ := can_prs (es := es.map (·.2))
    unfold SeqAt.shaped
    rw [PyData.canLay0, a, PyData.depth, decide_eq_true (by omega)]
    rfl
  · rw [any_dP]
    exact h
/-- values by names -/
def fV : List Str → List Int → Str → Int
  | w :: ws, v :: vs, x => if x = w then v else fV ws vs x
  | _, _, _ => 0
theorem fV_at : ∀ {ws : List Str} {vs : List Int}, ws.Nodup → ∀ (j : Nat) (h : j < ws.length) (h2 : j < vs.length), fV ws vs ws[j] = vs[j]
  | w :: ws, v :: vs, nd, 0, _, _ => if_pos rfl
  | w :: ws, v :: vs, nd, j + 1, h, h2 => by
    have nd' := List.nodup_cons.mp nd
    have h' : j < ws.length := by simpa using h
    have h2' : j < vs.length := by simpa using h2
    have ne : ws[j] ≠ w := fun z => nd'.1 (z ▸ List.getElem_mem h')
    show (if ws[j] = w then v else fV ws vs ws[j]) = vs[j]
    rw [if_neg ne]
    exact fV_at nd'.2 j h' h2'
theorem getD_l {xs ys : List Int} {i : Nat} (h : i < xs.length) : (xs ++ ys).getD i 0 = xs.getD i 0 := by
  rw [List.getD_eq_getElem?_getD, List.getD_eq_getElem?_getD, List.getElem?_append_left h]
theorem getD_end {xs : List Int} {v : Int} : (xs ++ [v]).getD xs.length 0 = v := by
  rw [List.getD_eq_getElem?_getD, List.getElem?_append_right (Nat.le_refl _), Nat.sub_self]
  rfl
/-- pairs of places, each once, with other values -/
structure PrOk (vals : List Int) (prs : List (Nat × Nat)) : Prop where
  nd : prs.Nodup
  ok : ∀ x ∈ prs, x.1 < x.2 ∧ x.2 < vals.length ∧ vals.getD x.1 0 ≠ vals.getD x.2 0
theorem PrOk.nil {vals : List Int} : PrOk vals [] := ⟨List.nodup_nil, fun x h => nomatch h⟩
theorem PrOk.val {vals : List Int} {prs : List (Nat × Nat)} {v : Int} (h : PrOk vals prs) : PrOk (vals ++ [v]) prs := ⟨h.nd, fun x hx => by
  obtain ⟨a, b, c⟩ := h.ok x hx
  refine ⟨a, by rw [List.length_append]; omega, ?_⟩
  rw [getD_l (by omega), getD_l b]
  exact c⟩
theorem PrOk.add {vals : List Int} {prs : List (Nat × Nat)} {a b : Nat} (h : PrOk vals prs) (n : (a, b) ∉ prs) (h1 : a < b) (h2 : b < vals.length) (h3 : vals.getD a 0 ≠ vals.getD b 0) : PrOk vals (prs ++ [(a, b)]) := by
  refine ⟨?_, fun x hx => ?_⟩
  · rw [List.nodup_append]
    refine ⟨h.nd, by simp, fun x hx y hy e => ?_⟩
    rw [List.mem_singleton] at hy
    subst hy
    subst e
    exact n hx
  · rcases List.mem_append.mp hx with hx | hx
    · exact h.ok x hx
    · rw [List.mem_singleton] at hx
      subst hx
      exact ⟨h1, h2, h3⟩
theorem sort2 {a b : Str} {ys : List Str} (n : a ≠ b) (p : ys.Perm [a, b]) (s : ys.Pairwise fun a b => ¬ sLt b a) : ys = [(eOf a b).1, (eOf a b).2] := by
  have l := p.length_eq
  match ys, l with
  | [y1, y2], _ =>
    have m1 : y1 ∈ [a, b] := p.mem_iff.mp List.mem_cons_self
    have m2 : y2 ∈ [a, b] := p.mem_iff.mp (List.mem_cons_of_mem _ List.mem_cons_self)
    have ndp : [y1, y2].Nodup := p.nodup_iff.mpr (by simp [n])
    have ne : y1 ≠ y2 := by simpa using ndp
    have ns : ¬ sLt y2 y1 := by
      rw [List.pairwise_cons] at s
      exact s.1 y2 (List.mem_singleton.mpr rfl)
    simp only [List.mem_cons, List.not_mem_nil, or_false] at m1 m2
    unfold eOf
    rcases m1 with rfl | rfl <;> rcases m2 with rfl | rfl
    · exact absurd rfl ne
    · rw [if_pos (sLt_total ns ne)]
    · rw [if_neg ns]
    · exact absurd rfl ne
theorem nodup_ix {xs : List Str} (nd : xs.Nodup) {i j : Nat} {hi : i < xs.length} {hj : j < xs.length} (e : xs[i] = xs[j]) : i = j := by
  have h := List.pairwise_iff_getElem.mp (List.nodup_iff_pairwise_ne.mp nd)
  rcases Nat.lt_trichotomy i j with z | z | z
  · exact absurd e (h i j hi hj z)
  · exact z
  · exact absurd e.symm (h j i hj hi z)
theorem getDU {α : Type} {xs : List α} {i : Nat} {d : α} (h : i < xs.length) : xs.getD i d = xs[i] := by
  rw [List.getD_eq_getElem?_getD, List.getElem?_eq_getElem h]
  rfl
end U
namespace Law
open PySem PySem.Spec PyProof.Rows L2 U


abbrev iP (x : Nat × Nat) : Int × Int := ((x.1 : Int), (x.2 : Int))
/-- values and pairs being made -/
structure BK (H0 : Hp) (p vA pA : Addr) (vals : List Int) (prs : List (Addr × Nat × Nat)) (H : Hp) : Prop where
  go : Go p H0 H
  hv : H vA = some (.lst (vals.map V.int))
  hp : H pA = some (.lst (prs.map fun x => V.ref x.1))
  tp : ∀ x ∈ prs, H x.1 = some (.tup [.int (x.2.1 : Nat), .int (x.2.2 : Nat)])
structure BN (H0 : Hp) (p vA pA : Addr) : Prop where
  fv : H0 vA = none
  fp : H0 pA = none
  vp : vA ≠ p
  pp : pA ≠ p
  vq : vA ≠ pA
section
variable {H0 H H2 : Hp} {p vA pA : Addr} {vals : List Int} {prs : List (Addr × Nat × Nat)}
theorem PoolAt.offTB {q : Addr} {xs : List V} (h : PoolAt H p) (hq : H q = some (.tup xs)) : q ≠ p := by
  rintro rfl
  obtain ⟨ys, h⟩ := h.isL
  rw [hq] at h
  cases h
theorem BK.new (b : BK H0 p vA pA vals prs H) {t : Addr} {o : HO} (f : H t = none) : BK H0 p vA pA vals prs (upd H t o) :=
  ⟨b.go.new f, at_upd (ne_of_none b.hv f) b.hv, at_upd (ne_of_none b.hp f) b.hp, fun x hx => at_upd (ne_of_none (b.tp x hx) f) (b.tp x hx)⟩
theorem BK.step (b : BK H0 p vA pA vals prs H) (n : BN H0 p vA pA) (g : Go p H H2) : BK H0 p vA pA vals prs H2 :=
  ⟨b.go.trans g, g.at b.hv n.vp, g.at b.hp n.pp, fun x hx => g.at (b.tp x hx) (b.go.pool.offTB (b.tp x hx))⟩
theorem BK.val (b : BK H0 p vA pA vals prs H) (n : BN H0 p vA pA) {v : Int} : BK H0 p vA pA (vals ++ [v]) prs (upd H vA (.lst (vals.map V.int ++ [.int v]))) :=
  ⟨b.go.put n.fv (Ne.symm n.vp), by rw [upd_same, List.map_append]; rfl, at_upd (Ne.symm n.vq) b.hp, fun x hx => at_upd (ne_of (b.tp x hx) b.hv (by intro z; cases z)) (b.tp x hx)⟩
theorem BK.pair (b : BK H0 p vA pA vals prs H) (n : BN H0 p vA pA) {t : Addr} {x y : Nat} (ht : H t = some (.tup [.int (x : Nat), .int (y : Nat)])) : BK H0 p vA pA vals (prs ++ [(t, x, y)]) (upd H pA (.lst ((prs.map fun x => V.ref x.1) ++ [.ref t]))) :=
  ⟨b.go.put n.fp (Ne.symm n.pp), at_upd n.vq b.hv, by rw [upd_same, List.map_append]; rfl, fun z hz => by
    rcases List.mem_append.mp hz with hz | hz
    · exact at_upd (ne_of (b.tp z hz) b.hp (by intro z; cases z)) (b.tp z hz)
    · rw [List.mem_singleton] at hz
      subst hz
      exact at_upd (ne_of ht b.hp (by intro z; cases z)) ht⟩
end
theorem Go.same {p : Addr} {H H1 H2 : Hp} (a : Go p H H1) (s : Same H1 H2) : Go p H H2 := a.trans (Go.of_same a.pool s)
def PrsAt (H : Hp) (es : List (Addr × Str × Str)) : Prop := ∀ x ∈ es, H x.1 = some (.tup [.str x.2.1, .str x.2.2])
theorem PrsAt.same {H H' : Hp} {es : List (Addr × Str × Str)} (h : PrsAt H es) (s : Same H H') : PrsAt H' es := fun x hx => s _ _ (h x hx)
theorem PrsAt.go {p : Addr} {H H' : Hp} {es : List (Addr × Str × Str)} (h : PrsAt H es) (hp : PoolAt H p) (g : Go p H H') : PrsAt H' es := fun x hx => g.at (h x hx) (hp.offTB (h x hx))
/-- a random problem -/
def spProblem : Sp := fun vs H Q _ => ∃ (p : Addr) (most : Int), vs = [.ref p, .int most] ∧ PoolAt H p ∧ 0 ≤ most ∧ most ≤ 25 ∧
  ∀ (t g n e st ps : Addr) (ns ord pn : List Str) (es : List (Addr × Str × Str)) (f : Str → Int) (H' : Hp), Go p H H' → H t = none → H g = none → H st = none → H ps = none → H' t = some (.tup [.ref g, .ref st, .ref ps]) → GrAt H' g n e ns es → GrOk ns (es.map (·.2)) → ord.Perm ns → (ns.length : Int) ≤ most → es.length ≤ 1000 →
    H' st = some (.dK (kvF ord f)) → (∀ x ∈ ns, 0 ≤ f x ∧ f x < 3) → (∀ x ∈ es, f x.2.1 ≠ f x.2.2) → H' ps = some (.tup (pn.map V.str)) → (∀ x ∈ pn, x ∈ ns) → pn.length ≤ ns.length → Asc pn → Q (.ref t) H'
section
variable {P : Program} {w : World} {K : PySem.W.Frag} {mg : Str → Option Value} {base : Heap}
structure B3a (P : Program) (w : World) (K : PySem.W.Frag) (mg : Str → Option Value) (base : Heap) : Prop where
  _law_draw : Cal P w K mg base CX0 1 "_law_draw" spDraw
  _law_random_names : Cal P w K mg base CX0 3 "_law_random_names" spNamesB
theorem ok_problem {f : Addr} {fd : FuncData} (F : Fun K "_law_random_problem" "_law_random_problem" s__law_random_problem f fd) (B : Bt mg) (C : B3a P w K mg base) : FnG P w K mg base CX0 4 f fd ["_law_source", "_law_most"] spProblem := by
  refine fnG0 F sc__law_random_problem (fun vs H Q E h => ?_) (fun cdv A outer s H vs Q E hr h => ?_)
  · obtain ⟨p, most, rfl, _⟩ := h
    rfl
  · obtain ⟨p, most, rfl, hp0, m0, m1, q⟩ := h
    have nd := sc__law_random_problem.nd
    have hu := hr.u1
    have hu65 : (A.deeper (envOfC "_law_random_problem" (defScope s__law_random_problem) s.heap.objs.size f cdv)).units + 65 < cLine := by
      have := hr.u100
      omega
    refine ⟨_, (pss_cons (ps_set (i := 2) nd rfl (by first | exact Or.inl rfl | exact Or.inr rfl) (pe_lst pa_nil))
  (pss_cons (ps_set (i := 3) nd rfl (by first | exact Or.inl rfl | exact Or.inr rfl) (pe_lst pa_nil))
  (pss_cons (ps_for PassesOwn.never rfl (pi_range1 rfl B.range (pa_cons (pe_c C._law_draw hr (by decide) rfl (pa_cons (pv 0) (pa_cons (pe_op (kAdd K rfl) (pv 1) pe_int) pa_nil))) pa_nil)) (pg_name (i := 4) nd rfl (by first | exact Or.inl rfl | exact Or.inr rfl)) (pss_cons (ps_set (i := 5) nd rfl (by first | exact Or.inl rfl | exact Or.inr rfl) (pe_c C._law_draw hr (by decide) rfl (pa_cons (pv 0) (pa_cons pe_int pa_nil))))
  (pss_cons (ps_set (i := 6) nd rfl (by first | exact Or.inl rfl | exact Or.inr rfl) (pe_c C._law_draw hr (by decide) rfl (pa_cons (pv 0) (pa_cons pe_int pa_nil))))
  (C8.pss_cut (ps_if (PW.pt (pw_and (pt_cmpR uGt (pv 4) pe_int (nomark _)) (pw_and1 (pt_cmpR uGt (pv 6) pe_int (nomark _))))) (C8.pss_cut (ps_set (i := 7) nd rfl (by first | exact Or.inl rfl | exact Or.inr rfl) (pe_ifExp (pt_cmpR uLt (pv 6) pe_int (nomark _)) (pe_op uSub (pv 4) pe_int) (pe_c C._law_draw hr (by decide) rfl (pa_cons (pv 0) (pa_cons (pv 4) pa_nil)))))
  (pss_cons (ps_set (i := 5) nd rfl (by first | exact Or.inl rfl | exact Or.inr rfl) (pe_op uMod (pe_op (kAdd K rfl) (pe_op (kAdd K rfl) (pe_ix (kIx K rfl) (pv 2) (pv 7) (fun _ _ => rfl)) pe_int) (pe_op uMod (pv 5) pe_int)) pe_int))
  (pss_one (ps_expr (pe_bm PySem.F.plainAttrs_list PySem.F.slot_list_append PySem.F.type_list_append mt_append (pv 3) (pa_cons (pe_tup (pa_cons (pv 7) (pa_cons (pv 4) pa_nil))) pa_nil)))))) pss_nil)
  (pss_one (ps_expr (pe_bm PySem.F.plainAttrs_list PySem.F.slot_list_append PySem.F.type_list_append mt_append (pv 2) (pa_cons (pv 5) pa_nil))))))))
  (pss_cons (ps_set (i := 8) nd rfl (by first | exact Or.inl rfl | exact Or.inr rfl) (pe_c C._law_draw hr (by decide) rfl (pa_cons (pv 0) (pa_cons pe_int pa_nil))))
  (pss_cons (ps_for PassesOwn.never rfl (pi_range1 rfl B.range (pa_cons (pe_callB (kLen K rfl) (by rfl) B.len bb_len (pa_cons (pv 2) pa_nil)) pa_nil)) (pg_name (i := 4) nd rfl (by first | exact Or.inl rfl | exact Or.inr rfl)) (pss_one (ps_for PassesOwn.never rfl (pi_range1 rfl B.range (pa_cons (pv 4) pa_nil)) (pg_name (i := 7) nd rfl (by first | exact Or.inl rfl | exact Or.inr rfl)) (pss_one (ps_if (PW.pt (pw_and (pt_cmpR (kNinL K rfl hu65) (pe_tup (pa_cons (pv 7) (pa_cons (pv 4) pa_nil))) (pv 3) rfl) (pw_and (pt_cmpR (kNe K rfl hr.u64) (pe_ix (kIx K rfl) (pv 2) (pv 7) (fun _ _ => rfl)) (pe_ix (kIx K rfl) (pv 2) (pv 4) (fun _ _ => rfl)) (nomark _)) (pw_and1 (pt_cmpR uLt (pe_c C._law_draw hr (by decide) rfl (pa_cons (pv 0) (pa_cons pe_int pa_nil))) (pv 8) (nomark _)))))) (pss_one (ps_expr (pe_bm PySem.F.plainAttrs_list PySem.F.slot_list_append PySem.F.type_list_append mt_append (pv 3) (pa_cons (pe_tup (pa_cons (pv 7) (pa_cons (pv 4) pa_nil))) pa_nil)))) pss_nil)))))
  (pss_cons (ps_set (i := 9) nd rfl (by first | exact Or.inl rfl | exact Or.inr rfl) (pe_c C._law_random_names hr (by decide) rfl (pa_cons (pv 0) (pa_cons (pe_callB (kLen K rfl) (by rfl) B.len bb_len (pa_cons (pv 2) pa_nil)) pa_nil))))
  (pss_cons (ps_set (i := 10) nd rfl (by first | exact Or.inl rfl | exact Or.inr rfl) (pe_callB (kSorted K rfl hr.u64) (by rfl) B.sorted bb_sorted (pa_cons (pe_lc (own := [("_law_one", 11), ("_law_other", 12)]) rfl nd (ki_list K rfl (pv 3)) (blkOk_by (own := [("_law_one", 11), ("_law_other", 12)]) (N := nN__law_random_problem) (sc := defScope s__law_random_problem) (by decide +kernel)) (fun _ _ _ _ _ => (kg_tup (n := 2) K rfl rfl (pgs_cons (pg_name (i := 11) nd rfl (by first | exact Or.inl rfl | exact Or.inr rfl)) (pgs_cons (pg_name (i := 12) nd rfl (by first | exact Or.inl rfl | exact Or.inr rfl)) pgs_nil)))) (fun _ _ _ _ _ => pts_nil) (fun _ _ _ _ _ => (pe_callTy (kTuple K rfl) (by rfl) B.tuple bb_tuple (pa_cons (pe_callB (kSorted K rfl hr.u64) (by rfl) B.sorted bb_sorted (pa_cons (pe_lst (pa_cons (pe_ix (kIx K rfl) (pv 9) (pv 11) (fun _ _ => rfl)) (pa_cons (pe_ix (kIx K rfl) (pv 9) (pv 12) (fun _ _ => rfl)) pa_nil))) pa_nil)) pa_nil)))) pa_nil)))
  (pss_cons (ps_set (i := 13) nd rfl (by first | exact Or.inl rfl | exact Or.inr rfl) pe_dnewK)
  (pss_cons (ps_for PassesOwn.never rfl (pi_range1 rfl B.range (pa_cons (pe_callB (kLen K rfl) (by rfl) B.len bb_len (pa_cons (pv 9) pa_nil)) pa_nil)) (pg_name (i := 4) nd rfl (by first | exact Or.inl rfl | exact Or.inr rfl)) (pss_one (ps_dput hu (pv 13) (pe_ix (kIx K rfl) (pv 9) (pv 4) (fun _ _ => rfl)) (pe_ix (kIx K rfl) (pv 2) (pv 4) (fun _ _ => rfl)) rfl)))
  (pss_cons (ps_set (i := 14) nd rfl (by first | exact Or.inl rfl | exact Or.inr rfl) (pe_c C._law_draw hr (by decide) rfl (pa_cons (pv 0) (pa_cons pe_int pa_nil))))
  (pss_cons (ps_setLc (i := 15) (own := [("_law_word", 16)]) rfl nd rfl rfl (sw_true rfl rfl rfl (by decide +kernel)) (ki_list K rfl (pe_callB (kSorted K rfl hr.u64) (by rfl) B.sorted bb_sorted (pa_cons (pv 9) pa_nil))) (blkOk_by (own := [("_law_word", 16)]) (N := nN__law_random_problem) (sc := defScope s__law_random_problem) (by decide +kernel)) (fun _ _ _ _ _ => (pg_name (i := 16) nd rfl (by first | exact Or.inl rfl | exact Or.inr rfl))) (fun _ _ _ _ _ => (pts_one (PW.pt (pw_and (pt_cmpR uGt (pv 14) pe_int (nomark _)) (pw_and1 (pt_cmpR (kEq K rfl hr.u64) (pe_c C._law_draw hr (by decide) rfl (pa_cons (pv 0) (pa_cons pe_int pa_nil))) pe_int (nomark _))))))) (fun _ _ _ _ _ => (pv 16)))
  (pss_one (ps_ret (pe_tup (pa_cons (pe_tup (pa_cons (pe_callTy (kTuple K rfl) (by rfl) B.tuple bb_tuple (pa_cons (pe_callB (kSorted K rfl hr.u64) (by rfl) B.sorted bb_sorted (pa_cons (pv 9) pa_nil)) pa_nil)) (pa_cons (pe_callTy (kTuple K rfl) (by rfl) B.tuple bb_tuple (pa_cons (pv 10) pa_nil)) pa_nil))) (pa_cons (pv 13) (pa_cons (pe_callTy (kTuple K rfl) (by rfl) B.tuple bb_tuple (pa_cons (pv 15) pa_nil)) pa_nil))))))))))))))))), ?_⟩
    wtm_at "rd"
    intro vA fvA
    have g1 := (Go.refl hp0).new (o := .lst []) fvA
    have hvA := @upd_same H vA (.lst [])
    have nvp := hp0.ne fvA
    generalize upd H vA (.lst []) = H1 at g1 hvA
    wtm_at "rd"
    intro pA fpA
    have bn : BN H p vA pA := ⟨fvA, g1.free _ fpA, Ne.symm nvp, Ne.symm (g1.pool.ne fpA), ne_of_none hvA fpA⟩
    have b2 : BK H p vA pA [] [] (upd H1 pA (.lst [])) := ⟨g1.new fpA, at_upd (ne_of_none hvA fpA) hvA, upd_same, fun x h => nomatch h⟩
    generalize upd H1 pA (.lst []) = H2 at b2
    clear fpA hvA g1 fvA
    wtm_at "rd"
    refine use_draw b2.go.pool (by omega) (by omega) fun many H3 c0 c1 g => ?_
    have b3 := b2.step bn g
    clear b2 g
    wtm_at "rd"
    refine turnsR (fun i σ H' => ∃ (vals : List Int) (prs : List (Addr × Nat × Nat)) (us : List (Option V)), us.length = 13 ∧ σ = some (.ref p) :: some (.int most) :: some (.ref vA) :: some (.ref pA) :: us ∧ BK H p vA pA vals prs H' ∧ vals.length = i ∧ (∀ v ∈ vals, 0 ≤ v ∧ v < 3) ∧ PrOk vals (prs.map (·.2)) ∧ prs.length ≤ i) ⟨[], [], _, by decide, rfl, b3, rfl, (fun v h => nomatch h), .nil, Nat.le_refl _⟩ ?_ ?_
    · rintro i σ H' hi ⟨vals, prs, us, lu, rfl, bk, hvl, v3, po, pl⟩
      obtain ⟨u4, u5, u6, u7, u8, u9, u10, u11, u12, u13, u14, u15, u16, rfl⟩ : ∃ u4 u5 u6 u7 u8 u9 u10 u11 u12 u13 u14 u15 u16, us = [u4, u5, u6, u7, u8, u9, u10, u11, u12, u13, u14, u15, u16] := by
        match us, lu with
        | [u4, u5, u6, u7, u8, u9, u10, u11, u12, u13, u14, u15, u16], _ => exact ⟨_, _, _, _, _, _, _, _, _, _, _, _, _, rfl⟩
      wtm_at "rd"
      refine use_draw bk.go.pool (by decide) (by decide) fun v Ha v0 v1 g => ?_
      have bk := bk.step bn g
      wtm_at "rd"
      refine use_draw bk.go.pool (by decide) (by decide) fun d Hb d0 d1 g => ?_
      have bk := bk.step bn g
      wtm_at "rd"
      refine ⟨fun σ' H2 => ∃ (v' : Int) (u7 : Option V) (prs' : List (Addr × Nat × Nat)), σ' = [some (.ref p), some (.int most), some (.ref vA), some (.ref pA), some (.int (0 + (i : Int))), some (.int v'), some (.int d), u7, u8, u9, u10, u11, u12, u13, u14, u15, u16] ∧ BK H p vA pA vals prs' H2 ∧ 0 ≤ v' ∧ v' < 3 ∧ PrOk (vals ++ [v']) (prs'.map (·.2)) ∧ prs'.length ≤ i + 1, ?_, ?_⟩
      · wtm_at "rd"
        refine rd_split (fun c1 => ?_) (fun c1 => ?_)
        · wtm_at "rd"
          refine rd_split (fun c2 => ?_) (fun c2 => ?_)
          · wtm_at "rd"
            refine ⟨fun σ' H2 => ∃ j : Nat, j < i ∧ σ' = [some (.ref p), some (.int most), some (.ref vA), some (.ref pA), some (.int (0 + (i : Int))), some (.int v), some (.int d), some (.int j), u8, u9, u10, u11, u12, u13, u14, u15, u16] ∧ BK H p vA pA vals prs H2, ?_, ?_⟩
            · wtm_at "rd"
              refine rd_split (fun c3 => ?_) (fun c3 => ?_)
              · wtm_at "rd"
                exact ⟨i - 1, by omega, by rw [show (0 + (i : Int) - 1) = ((i - 1 : Nat) : Int) from by omega]; rfl, bk⟩
              · wtm_at "rd"
                refine use_draw bk.go.pool (by omega) (by omega) fun r Hc r0 r1 g => ?_
                exact ⟨r.toNat, by omega, by rw [show r = (r.toNat : Int) from by omega]; rfl, bk.step bn g⟩
            rintro σ' Hc ⟨j, hj, rfl, bk⟩
            have hjv : j < vals.length := by omega
            wtm_at "rd"
            refine rd_ixL (SqL.of bk.hv) (v := .int vals[j]) (atI_nat (by rw [List.getElem?_map, List.getElem?_eq_getElem hjv]; rfl)) ?_
            have vj := v3 _ (List.getElem_mem hjv)
            have eg : vals.getD j 0 = vals[j] := getDU hjv
            generalize vals[j] = x at *
            wtm_at "rd"
            refine rd_tyL bk.hp ?_
            wtm_at "rd"
            intro t ft
            have e0 : (0 + (i : Int)) = (i : Int) := Int.zero_add _
            rw [e0]
            have bk := bk.new (o := .tup [.int (j : Nat), .int (i : Nat)]) ft
            have ht := @upd_same Hc t (.tup [.int (j : Nat), .int (i : Nat)])
            generalize upd Hc t (.tup [.int (j : Nat), .int (i : Nat)]) = Hd at bk ht
            wtm_at "rd"
            refine rd_append bk.hp (by rw [List.length_map]; omega) ?_
            refine ⟨_, _, prs ++ [(t, j, i)], rfl, bk.pair bn ht, by omega, by omega, ?_, by rw [List.length_append]; exact Nat.add_le_add_right pl 1⟩
            rw [List.map_append]
            refine po.val.add (fun z => ?_) hj (by rw [List.length_append, hvl]; exact Nat.lt_succ_self _) ?_
            · obtain ⟨_, z2, _⟩ := po.ok _ z
              omega
            · rw [getD_l hjv, eg, ← hvl, getD_end]
              omega
          · wtm_at "rd"
            exact ⟨_, _, _, rfl, bk, v0, v1, po.val, by omega⟩
        · wtm_at "rd"
          exact ⟨_, _, _, rfl, bk, v0, v1, po.val, by omega⟩
      rintro σ' Hc ⟨v', u7, prs', rfl, bk, v0', v1', po', pl'⟩
      wtm_at "rd"
      refine rd_tyL bk.hv ?_
      wtm_at "rd"
      refine rd_append bk.hv (by rw [List.length_map]; omega) ?_
      refine ⟨vals ++ [v'], prs', _, by rfl, rfl, bk.val bn, by rw [List.length_append, hvl]; rfl, fun z hz => ?_, po', pl'⟩
      rcases List.mem_append.mp hz with hz | hz
      · exact v3 z hz
      · rw [List.mem_singleton] at hz
        omega
    rintro σ H4 ⟨vals, prs, us, lu, rfl, bk, hvl, v3, po, pl⟩
    obtain ⟨u4, u5, u6, u7, u8, u9, u10, u11, u12, u13, u14, u15, u16, rfl⟩ : ∃ u4 u5 u6 u7 u8 u9 u10 u11 u12 u13 u14 u15 u16, us = [u4, u5, u6, u7, u8, u9, u10, u11, u12, u13, u14, u15, u16] := by
      match us, lu with
      | [u4, u5, u6, u7, u8, u9, u10, u11, u12, u13, u14, u15, u16], _ => exact ⟨_, _, _, _, _, _, _, _, _, _, _, _, _, rfl⟩
    have vl25 : vals.length ≤ 25 := by omega
    wtm_at "rd"
    refine use_draw bk.go.pool (by decide) (by decide) fun dens Ha _ _ g => ?_
    have bk := bk.step bn g
    wtm_at "rd"
    refine rd_lenL (SqL.of bk.hv) ?_
    rw [List.length_map]
    wtm_at "rd"
    refine turnsR (fun i σ H' => ∃ (prs : List (Addr × Nat × Nat)) (u4 u7 : Option V), σ = [some (.ref p), some (.int most), some (.ref vA), some (.ref pA), u4, u5, u6, u7, some (.int dens), u9, u10, u11, u12, u13, u14, u15, u16] ∧ BK H p vA pA vals prs H' ∧ PrOk vals (prs.map (·.2)) ∧ prs.length ≤ 25 + 25 * i) ⟨prs, _, _, rfl, bk, po, by omega⟩ ?_ ?_
    · rintro i σ H' hi ⟨prs, u4, u7, rfl, bk, po, pl⟩
      have hi : i < vals.length := by omega
      wtm_at "rd"
      refine turnsR (fun j σ H' => ∃ (prs : List (Addr × Nat × Nat)) (u7 : Option V), σ = [some (.ref p), some (.int most), some (.ref vA), some (.ref pA), some (.int (0 + (i : Int))), u5, u6, u7, some (.int dens), u9, u10, u11, u12, u13, u14, u15, u16] ∧ BK H p vA pA vals prs H' ∧ PrOk vals (prs.map (·.2)) ∧ prs.length ≤ 25 + 25 * i + j) ⟨prs, _, rfl, bk, po, by omega⟩ ?_ ?_
      · rintro j σ H' hj ⟨prs, u7, rfl, bk, po, pl⟩
        have hj : j < i := by omega
        have hjv : j < vals.length := by omega
        have e0 : (0 + (i : Int)) = (i : Int) := Int.zero_add _
        have e1 : (0 + (j : Int)) = (j : Int) := Int.zero_add _
        rw [e0, e1]
        wtm_at "rd"
        intro t ft
        have bk := bk.new (o := .tup [.int (j : Nat), .int (i : Nat)]) ft
        have ht := @upd_same H' t (.tup [.int (j : Nat), .int (i : Nat)])
        generalize upd H' t (.tup [.int (j : Nat), .int (i : Nat)]) = Hb at bk ht
        wtm_at "rd"
        refine rd_ninLP (K := K) (e := ((j : Int), (i : Int))) (es := prs.map fun x => (x.1, iP x.2)) (SqT.of ht) (SqL.of (by rw [List.map_map]; exact bk.hp)) (fun x hx => by
          obtain ⟨y, hy, rfl⟩ := List.mem_map.mp hx
          exact SqT.of (bk.tp y hy)) ?_
        have emem : (((j : Int), (i : Int)) ∈ (prs.map fun x => (x.1, iP x.2)).map (·.2)) ↔ (j, i) ∈ prs.map (·.2) := by
          rw [List.map_map]
          constructor
          · intro z
            obtain ⟨y, hy, e⟩ := List.mem_map.mp z
            have e' : iP y.2 = ((j : Int), (i : Int)) := e
            have a1 := congrArg Prod.fst e'
            have a2 := congrArg Prod.snd e'
            have b1 : y.2.1 = j := by have : (y.2.1 : Int) = (j : Int) := a1; omega
            have b2 : y.2.2 = i := by have : (y.2.2 : Int) = (i : Int) := a2; omega
            exact List.mem_map.mpr ⟨y, hy, Prod.ext b1 b2⟩
          · intro z
            obtain ⟨y, hy, e⟩ := List.mem_map.mp z
            refine List.mem_map.mpr ⟨y, hy, ?_⟩
            show iP y.2 = _
            rw [e]
        wtm_at "rd"
        refine rd_nsplit (fun c1 => ?_) (fun c1 => ?_)
        · wtm_at "rd"
          refine rd_ixL (SqL.of bk.hv) (v := .int vals[j]) (atI_nat (by rw [List.getElem?_map, List.getElem?_eq_getElem hjv]; rfl)) ?_
          wtm_at "rd"
          refine rd_ixL (SqL.of bk.hv) (v := .int vals[i]) (atI_nat (by rw [List.getElem?_map, List.getElem?_eq_getElem hi]; rfl)) ?_
          wtm_at "rd"
          refine rd_nsplit (fun c2 => ?_) (fun c2 => ?_)
          · wtm_at "rd"
            refine use_draw bk.go.pool (by decide) (by decide) fun r Hc _ _ g => ?_
            have bk2 := bk.step bn g
            have ht2 := g.at ht (bk.go.pool.offTB ht)
            wtm_at "rd"
            refine rd_split (fun c3 => ?_) (fun c3 => ?_)
            · wtm_at "rd"
              refine rd_tyL bk2.hp ?_
              wtm_at "rd"
              intro t2 ft2
              have bk3 := bk2.new (o := .tup [.int (j : Nat), .int (i : Nat)]) ft2
              have ht3 := @upd_same Hc t2 (.tup [.int (j : Nat), .int (i : Nat)])
              generalize upd Hc t2 (.tup [.int (j : Nat), .int (i : Nat)]) = Hd at bk3 ht3
              wtm_at "rd"
              refine rd_append bk3.hp (by rw [List.length_map]; omega) ?_
              refine ⟨prs ++ [(t2, j, i)], _, rfl, bk3.pair bn ht3, ?_, by rw [List.length_append, List.length_singleton]; omega⟩
              rw [List.map_append]
              refine po.add (fun z => c1 (emem.mpr z)) hj hi ?_
              rw [getDU hjv, getDU hi]
              exact c2
            · wtm_at "rd"
              exact ⟨_, _, rfl, bk2, po, by omega⟩
          · wtm_at "rd"
            exact ⟨_, _, rfl, bk, po, by omega⟩
        · wtm_at "rd"
          exact ⟨_, _, rfl, bk, po, by omega⟩
      · rintro σ H' ⟨prs, u7, rfl, bk, po, pl⟩
        exact ⟨prs, _, _, rfl, bk, po, by omega⟩
    rintro σ H5 ⟨prs, u4, u7, rfl, bk, po, pl⟩
    have pl : prs.length ≤ 700 := by omega
    wtm_at "rd"
    refine rd_lenL (SqL.of bk.hv) ?_
    rw [List.length_map]
    wtm_at "rd"
    refine ⟨p, _, rfl, by omega, by omega, bk.go.pool, fun wA ws H6 g fwA hwA nu lw => ?_⟩
    have nwp := (bk.go.pool.ne fwA).symm
    have bk := bk.step bn g
    have lw : ws.length = vals.length := by omega
    clear g fwA
    wtm_at "rd"
    refine rd_forL (SqL.of bk.hp) ?_
    intro D fD
    refine lcL (K := K) (xs := prs.map fun x => V.ref x.1) (fun i H' => ∃ es : List (Addr × Str × Str), Same H6 H' ∧ H' D = some (.lst (es.map fun x => V.ref x.1)) ∧ PrsAt H' es ∧ es.map (·.2) = ((prs.take i).map fun x => eOf (ws.getD x.2.1 "") (ws.getD x.2.2 ""))) ⟨[], Same.new fD, upd_same, (fun x h => nomatch h), rfl⟩ ?_ ?_ ?_
    · rintro i H' hi ⟨es, sb, _⟩
      exact SqL.of (sb _ _ bk.hp)
    · rintro i y H' hy ⟨es, sb, hD, tp, em⟩
      obtain ⟨hi, rfl⟩ := map_at hy
      have pin := List.getElem_mem hi
      have ht := sb _ _ (bk.tp _ pin)
      have tk : prs.take (i + 1) = prs.take i ++ [prs[i]] := by
        rw [List.take_succ, List.getElem?_eq_getElem hi]
        rfl
      have le : es.length ≤ 700 := by
        have := congrArg List.length em
        rw [List.length_map, List.length_map, List.length_take] at this
        omega
      obtain ⟨x1, x2, x3⟩ := po.ok _ (List.mem_map_of_mem (f := fun x : Addr × Nat × Nat => x.2) pin)
      rcases hx : prs[i] with ⟨xa, a, b⟩
      rw [hx] at ht x1 x2 x3 tk
      dsimp only at ht x1 x2 x3 ⊢
      have ha : a < ws.length := by rw [lw]; exact Nat.lt_trans x1 x2
      have hb : b < ws.length := by rw [lw]; exact x2
      have ne : ws[a] ≠ ws[b] := fun z => by
        have := nodup_ix nu.nd z
        have x1 : a < b := x1
        omega
      refine rd_unp (SqT.of (xs := [.int (a : Nat), .int (b : Nat)]) ht) rfl ?_
      wtm_at "rd"
      refine rd_ixL (SqL.of (sb _ _ hwA)) (v := .str ws[a]) (atI_nat (by rw [List.getElem?_map, List.getElem?_eq_getElem ha]; rfl)) ?_
      wtm_at "rd"
      refine rd_ixL (SqL.of (sb _ _ hwA)) (v := .str ws[b]) (atI_nat (by rw [List.getElem?_map, List.getElem?_eq_getElem hb]; rfl)) ?_
      wtm_at "rd"
      intro t1 ft1
      have k1 := Same.new (o := .lst [.str ws[a], .str ws[b]]) ft1
      wtm_at "rd"
      refine rd_sortS (xs := [ws[a], ws[b]]) (SqL.of upd_same) (by show 2 ≤ 100000; decide) ?_
      intro ys py sy t2 ft2
      have k2 := Same.new (o := .lst (ys.map V.str)) ft2
      wtm_at "rd"
      refine rd_tupleL (SqL.of upd_same) ?_
      intro t3 ft3
      have k3 := Same.new (o := .tup (ys.map V.str)) ft3
      have sA := (k1.trans k2).trans k3
      have h3 := @upd_same (upd (upd H' t1 (.lst [.str ws[a], .str ws[b]])) t2 (.lst (ys.map V.str))) t3 (.tup (ys.map V.str))
      generalize upd (upd (upd H' t1 (.lst [.str ws[a], .str ws[b]])) t2 (.lst (ys.map V.str))) t3 (.tup (ys.map V.str)) = Ha at sA h3
      rw [sort2 ne py sy] at h3
      refine rd_acc (sA _ _ hD) (by rw [List.length_map]; omega) ?_
      have hDa := sA _ _ hD
      refine ⟨es ++ [(t3, eOf ws[a] ws[b])], same_put (sb.trans sA) fD, by rw [upd_same, List.map_append]; rfl, fun z hz => ?_, ?_⟩
      · rcases List.mem_append.mp hz with hz | hz
        · exact at_upd (ne_of (sA _ _ (tp z hz)) hDa (by intro z; cases z)) (sA _ _ (tp z hz))
        · rw [List.mem_singleton] at hz
          subst hz
          exact at_upd (ne_of h3 hDa (by intro z; cases z)) h3
      · rw [tk, List.map_append, List.map_append, em]
        show _ = _ ++ [eOf (ws.getD a "") (ws.getD b "")]
        rw [getDU ha, getDU hb]
        rfl
    rintro H7 ⟨es, s7, hD, tp, em⟩
    rw [List.length_map, List.take_length] at em
    have el : es.length ≤ 700 := by
      have := congrArg List.length em
      rw [List.length_map, List.length_map] at this
      omega
    have g7 := bk.go.same s7
    have hw := s7 _ _ hwA
    have hv := s7 _ _ bk.hv
    clear hwA bk s7 fD
    wtm_at "rd"
    refine rd_sortE (SqL.of hD) (fun x hx => SqT.of (tp x hx)) (by omega) ?_
    intro es2 pe se
    have tp : PrsAt H7 es2 := fun x hx => tp x (pe.mem_iff.mp hx)
    intro eA feA
    have nep := (g7.pool.ne feA).symm
    have k := Same.new (o := .lst (es2.map fun x => V.ref x.1)) feA
    have he := @upd_same H7 eA (.lst (es2.map fun x => V.ref x.1))
    have hw := k _ _ hw
    have hv := k _ _ hv
    have tp := tp.same k
    have g7 := g7.same k
    generalize upd H7 eA (.lst (es2.map fun x => V.ref x.1)) = H8 at he hw hv tp g7
    clear k feA hD
    wtm_at "rd"
    intro stA fst
    have nsp := (g7.pool.ne fst).symm
    have nws := ne_of_none hw fst
    have nvs := ne_of_none hv fst
    have nes := ne_of_none he fst
    have fst0 := g7.free _ fst
    have k := Same.new (o := .dK []) fst
    have hs := @upd_same H8 stA (.dK [])
    have hw := k _ _ hw
    have hv := k _ _ hv
    have he := k _ _ he
    have tp := tp.same k
    have g7 := g7.same k
    generalize upd H8 stA (.dK []) = H9 at he hw hv tp g7 hs
    clear k fst
    wtm_at "rd"
    refine rd_lenL (SqL.of hw) ?_
    rw [List.length_map]
    wtm_at "rd"
    refine turnsR (fun i σ H' => ∃ u4 : Option V, σ = [some (.ref p), some (.int most), some (.ref vA), some (.ref pA), u4, u5, u6, u7, some (.int dens), some (.ref wA), some (.ref eA), u11, u12, some (.ref stA), u14, u15, u16] ∧ Go p H H' ∧ But stA H9 H' ∧ H' stA = some (.dK (kvF (ws.take i) (fV ws vals)))) ⟨_, rfl, g7, But.refl, hs⟩ ?_ ?_
    · rintro i σ H' hi ⟨u4, rfl, g, bt, hs⟩
      have hi : i < ws.length := by omega
      have hiv : i < vals.length := by omega
      have e0 : (0 + (i : Int)) = (i : Int) := Int.zero_add _
      rw [e0]
      wtm_at "rd"
      refine rd_ixL (SqL.of (bt _ _ nvs hv)) (v := .int vals[i]) (atI_nat (by rw [List.getElem?_map, List.getElem?_eq_getElem hiv]; rfl)) ?_
      wtm_at "rd"
      refine rd_ixL (SqL.of (bt _ _ nws hw)) (v := .str ws[i]) (atI_nat (by rw [List.getElem?_map, List.getElem?_eq_getElem hi]; rfl)) ?_
      refine rd_dset hs (k := .inr ws[i]) rfl (by rw [List.length_map, List.length_take]; omega) ?_
      refine ⟨_, rfl, g.put fst0 (Ne.symm nsp), bt.trans But.upd, ?_⟩
      have nin : ws[i] ∉ ws.take i := fun z => by
        obtain ⟨j, hj, e⟩ := List.mem_iff_getElem.mp z
        rw [List.getElem_take] at e
        rw [List.length_take] at hj
        have := nodup_ix nu.nd e
        omega
      rw [upd_same, kvF_new nin, show ws.take (i + 1) = ws.take i ++ [ws[i]] from by rw [List.take_succ, List.getElem?_eq_getElem hi]; rfl]
      congr 2
      refine kvF_congr fun x hx => ?_
      unfold updf
      split
      · rename_i c
        rw [c]
        exact (fV_at nu.nd i hi hiv).symm
      · rfl
    rintro σ H10 ⟨u4, rfl, g, bt, hs⟩
    rw [show ((ws.length : Int)).toNat = ws.length from rfl, List.take_length] at hs
    have hw := bt _ _ nws hw
    have he := bt _ _ nes he
    have tp : PrsAt H10 es2 := fun x hx => bt _ _ (ne_of (tp x hx) (by assumption) (by intro z; cases z)) (tp x hx)
    clear bt hv
    wtm_at "rd"
    refine use_draw g.pool (by decide) (by decide) fun share H11 _ _ gd => ?_
    have hw := gd.at hw nwp
    have he := gd.at he nep
    have hs := gd.at hs nsp
    have tp := tp.go g.pool gd
    have g := g.trans gd
    clear gd
    wtm_at "rd"
    refine rd_sortS (SqL.of hw) (by omega) ?_
    intro ns1 pn1 sn1 l1 fl1
    have nl1 := (g.pool.ne fl1).symm
    have k := Same.new (o := .lst (ns1.map V.str)) fl1
    have hl1 := @upd_same H11 l1 (.lst (ns1.map V.str))
    have hw := k _ _ hw
    have he := k _ _ he
    have hs := k _ _ hs
    have tp := tp.same k
    have g := g.same k
    generalize upd H11 l1 (.lst (ns1.map V.str)) = H12 at hl1 hw he hs tp g
    clear k fl1
    wtm_at "rd"
    refine rd_forL (SqL.of hl1) ?_
    intro D2 fD2
    have nD2p := g.pool.ne fD2
    refine lcL (K := K) (xs := ns1.map V.str) (fun i H' => ∃ pn : List Str, pn.Sublist (ns1.take i) ∧ Go p H12 H' ∧ H' D2 = some (.lst (pn.map V.str))) ⟨[], .slnil, (Go.refl g.pool).new fD2, upd_same⟩ ?_ ?_ ?_
    · rintro i H' hi ⟨pn, _, ga, _⟩
      exact SqL.of (ga.at hl1 nl1)
    · rintro i y H' hy ⟨pn, sl, ga, hD2⟩
      obtain ⟨hi, rfl⟩ := map_at hy
      have lp := sl.length_le
      rw [List.length_take] at lp
      have ln1 := pn1.length_eq
      have tk : ns1.take (i + 1) = ns1.take i ++ [ns1[i]] := by
        rw [List.take_succ, List.getElem?_eq_getElem hi]
        rfl
      have skip : pn.Sublist (ns1.take (i + 1)) := by
        rw [tk]
        exact sl.trans (List.sublist_append_left _ _)
      wtm_at "rd"
      refine rd_split (fun c1 => ?_) (fun c1 => ?_)
      · wtm_at "rd"
        refine use_draw ga.pool (by decide) (by decide) fun r Hb _ _ gb => ?_
        have hD3 := gb.at hD2 (Ne.symm nD2p)
        have gc := ga.trans gb
        wtm_at "rd"
        refine rd_split (fun c2 => ?_) (fun c2 => ?_)
        · wtm_at "rd"
          refine rd_acc hD3 (by rw [List.length_map]; omega) ?_
          refine ⟨pn ++ [ns1[i]], ?_, gc.put fD2 nD2p, by rw [upd_same, List.map_append]; rfl⟩
          rw [tk]
          exact sl.append (List.Sublist.refl _)
        · exact ⟨pn, skip, gc, hD3⟩
      · wtm_at "rd"
        exact ⟨pn, skip, ga, hD2⟩
    rintro H13 ⟨pn, sl, ga, hD2⟩
    rw [List.length_map, List.take_length] at sl
    have hw := ga.at hw nwp
    have he := ga.at he nep
    have hs := ga.at hs nsp
    have tp := tp.go g.pool ga
    have g := g.trans ga
    clear ga hl1 fD2
    wtm_at "rd"
    refine rd_sortS (SqL.of hw) (by omega) ?_
    intro ns pn2 sn
    intro l2 fl2
    have kl2 := Same.new (o := .lst (ns.map V.str)) fl2
    have hl2 := @upd_same H13 l2 (.lst (ns.map V.str))
    have he := kl2 _ _ he
    have hs := kl2 _ _ hs
    have hD2 := kl2 _ _ hD2
    have tp := tp.same kl2
    have g := g.same kl2
    generalize upd H13 l2 (.lst (ns.map V.str)) = H14 at hl2 he hs hD2 tp g
    clear kl2 fl2
    wtm_at "rd"
    refine rd_tupleL (SqL.of hl2) ?_
    intro n fn
    have kn := Same.new (o := .tup (ns.map V.str)) fn
    have hn := @upd_same H14 n (.tup (ns.map V.str))
    have he := kn _ _ he
    have hs := kn _ _ hs
    have hD2 := kn _ _ hD2
    have tp := tp.same kn
    have g := g.same kn
    generalize upd H14 n (.tup (ns.map V.str)) = H15 at hn he hs hD2 tp g
    clear kn fn
    wtm_at "rd"
    refine rd_tupleL (SqL.of he) ?_
    intro e fe
    have ke := Same.new (o := .tup (es2.map fun x => V.ref x.1)) fe
    have he := @upd_same H15 e (.tup (es2.map fun x => V.ref x.1))
    have hn := ke _ _ hn
    have hs := ke _ _ hs
    have hD2 := ke _ _ hD2
    have tp := tp.same ke
    have g := g.same ke
    generalize upd H15 e (.tup (es2.map fun x => V.ref x.1)) = H16 at he hn hs hD2 tp g
    clear ke fe
    wtm_at "rd"
    intro gr fgr
    have fgr0 := g.free _ fgr
    have k := Same.new (o := .tup [.ref n, .ref e]) fgr
    have hgr := @upd_same H16 gr (.tup [.ref n, .ref e])
    have hn := k _ _ hn
    have he := k _ _ he
    have hs := k _ _ hs
    have hD2 := k _ _ hD2
    have tp := tp.same k
    have g := g.same k
    generalize upd H16 gr (.tup [.ref n, .ref e]) = H17 at hgr hn he hs hD2 tp g
    clear k fgr
    wtm_at "rd"
    refine rd_tupleL (SqL.of hD2) ?_
    intro ps fps
    have fps0 := g.free _ fps
    have k := Same.new (o := .tup (pn.map V.str)) fps
    have hps := @upd_same H17 ps (.tup (pn.map V.str))
    have hn := k _ _ hn
    have he := k _ _ he
    have hs := k _ _ hs
    have hgr := k _ _ hgr
    have tp := tp.same k
    have g := g.same k
    generalize upd H17 ps (.tup (pn.map V.str)) = H18 at hps hgr hn he hs tp g
    clear k fps
    wtm_at "rd"
    intro t ft
    have ft0 := g.free _ ft
    have k := Same.new (o := .tup [.ref gr, .ref stA, .ref ps]) ft
    have ht := @upd_same H18 t (.tup [.ref gr, .ref stA, .ref ps])
    have hn := k _ _ hn
    have he := k _ _ he
    have hs := k _ _ hs
    have hgr := k _ _ hgr
    have hps := k _ _ hps
    have tp := tp.same k
    have g := g.same k
    generalize upd H18 t (.tup [.ref gr, .ref stA, .ref ps]) = H19 at ht hps hgr hn he hs tp g
    clear k ft
    have nn := nu.perm pn2
    have nn1 := nu.perm pn1
    have inE : ∀ x ∈ es2, ∃ a b, ∃ (ha : a < ws.length) (hb : b < ws.length), a < b ∧ x.2 = eOf ws[a] ws[b] ∧ fV ws vals ws[a] ≠ fV ws vals ws[b] := fun x hx => by
      have m := List.mem_map_of_mem (f := fun x : Addr × Str × Str => x.2) (pe.mem_iff.mp hx)
      rw [em] at m
      obtain ⟨y, hy, e⟩ := List.mem_map.mp m
      obtain ⟨x1, x2, x3⟩ := po.ok _ (List.mem_map_of_mem (f := fun x : Addr × Nat × Nat => x.2) hy)
      have ha : y.2.1 < ws.length := by rw [lw]; exact Nat.lt_trans x1 x2
      have hb : y.2.2 < ws.length := by rw [lw]; exact x2
      refine ⟨y.2.1, y.2.2, ha, hb, x1, ?_, ?_⟩
      · have e' : eOf (ws.getD y.2.1 "") (ws.getD y.2.2 "") = x.2 := e
        rw [getDU ha, getDU hb] at e'
        exact e'.symm
      · rw [fV_at nu.nd _ ha (by omega), fV_at nu.nd _ hb x2, ← getDU (d := (0 : Int)) (by omega : y.2.1 < vals.length), ← getDU (d := (0 : Int)) x2]
        exact x3
    have pe2 : (es2.map (·.2)).Perm (es.map (·.2)) := pe.map _
    have ndE : (es.map (·.2)).Nodup := by
      rw [em, List.nodup_iff_pairwise_ne, List.pairwise_map]
      have h := po.nd
      rw [List.nodup_iff_pairwise_ne, List.pairwise_map] at h
      refine (List.Pairwise.and_mem.mp h).imp ?_
      intro x y ⟨hx, hy, ne⟩ e
      obtain ⟨x1, x2, x3⟩ := po.ok _ (List.mem_map_of_mem (f := fun x : Addr × Nat × Nat => x.2) hx)
      obtain ⟨y1, y2, y3⟩ := po.ok _ (List.mem_map_of_mem (f := fun x : Addr × Nat × Nat => x.2) hy)
      have hxa : x.2.1 < ws.length := by rw [lw]; exact Nat.lt_trans x1 x2
      have hxb : x.2.2 < ws.length := by rw [lw]; exact x2
      have hya : y.2.1 < ws.length := by rw [lw]; exact Nat.lt_trans y1 y2
      have hyb : y.2.2 < ws.length := by rw [lw]; exact y2
      rw [getDU hxa, getDU hxb, getDU hya, getDU hyb] at e
      rcases eOf_inj e with ⟨e1, e2⟩ | ⟨e1, e2⟩
      · have a1 := nodup_ix nu.nd e1
        have a2 := nodup_ix nu.nd e2
        exact ne (Prod.ext a1 a2)
      · have a1 := nodup_ix nu.nd e1
        have a2 := nodup_ix nu.nd e2
        omega
    have asc2 : Asc ns := asc_of_sorted sn nn.nd
    have asc1 : Asc ns1 := asc_of_sorted sn1 nn1.nd
    refine q t gr n e stA ps ns ws pn es2 (fV ws vals) _ g ft0 fgr0 fst0 fps0 ht ⟨hgr, hn, he, tp⟩ ⟨⟨asc2, nn.ok⟩, ?_, ?_, ?_⟩ pn2.symm (by rw [pn2.length_eq]; omega) (by rw [pe.length_eq]; omega) hs (fun x hx => ?_) (fun x hx => ?_) hps (fun x hx => pn2.mem_iff.mpr (pn1.mem_iff.mp (sl.mem hx))) (by have := sl.length_le; rw [pn1.length_eq] at this; rw [pn2.length_eq]; exact this) (asc1.sublist sl)
    · refine ascE_of_sorted ?_ (pe2.nodup_iff.mpr ndE)
      rw [List.pairwise_map]
      exact se
    · intro y hy
      obtain ⟨x, hx, rfl⟩ := List.mem_map.mp hy
      obtain ⟨a, b, ha, hb, h1, h2, h3⟩ := inE x hx
      rw [h2]
      exact eOf_lt fun z => h3 (by rw [z])
    · intro y hy
      obtain ⟨x, hx, rfl⟩ := List.mem_map.mp hy
      obtain ⟨a, b, ha, hb, h1, h2, h3⟩ := inE x hx
      rw [h2]
      have m1 := pn2.mem_iff.mpr (List.getElem_mem ha)
      have m2 := pn2.mem_iff.mpr (List.getElem_mem hb)
      rcases eOf_cases ws[a] ws[b] with z | z <;> rw [z]
      · exact ⟨m1, m2⟩
      · exact ⟨m2, m1⟩
    · obtain ⟨j, hj, rfl⟩ := List.mem_iff_getElem.mp (pn2.mem_iff.mp hx)
      rw [fV_at nu.nd j hj (by omega)]
      exact v3 _ (List.getElem_mem _)
    · obtain ⟨a, b, ha, hb, h1, h2, h3⟩ := inE x hx
      rw [h2]
      rcases eOf_cases ws[a] ws[b] with z | z <;> rw [z]
      · exact h3
      · exact Ne.symm h3
end
end Law

/-! dict | dict -/
namespace U
open PySem PySem.Spec PyProof.Rows L2
section
variable {prog : Program} {w : World} {κ : Type} [DecidableEq κ] {knd : KeyKind prog w κ} {A : Around} {E : Value → Shared → Prop} {s : Shared}
end
section
variable {X : Cx}
end
end U

/-! k61's random graph -/
namespace U
open PySem PySem.Spec PyProof.Rows L2
end U
namespace Law
open PySem PySem.Spec PyProof.Rows L2 U


/-- pairs being made -/
structure PK (H0 : Hp) (p pA : Addr) (prs : List (Addr × Nat × Nat)) (H : Hp) : Prop where
  go : Go p H0 H
  hp : H pA = some (.lst (prs.map fun x => V.ref x.1))
  tp : ∀ x ∈ prs, H x.1 = some (.tup [.int (x.2.1 : Nat), .int (x.2.2 : Nat)])
section
variable {H0 H H2 : Hp} {p pA : Addr} {prs : List (Addr × Nat × Nat)}
theorem PK.same (b : PK H0 p pA prs H) (s : Same H H2) : PK H0 p pA prs H2 := ⟨b.go.same s, s _ _ b.hp, fun x hx => s _ _ (b.tp x hx)⟩
theorem PK.step (b : PK H0 p pA prs H) (n : pA ≠ p) (g : Go p H H2) : PK H0 p pA prs H2 := ⟨b.go.trans g, g.at b.hp n, fun x hx => g.at (b.tp x hx) (b.go.pool.offTB (b.tp x hx))⟩
theorem PK.pair (b : PK H0 p pA prs H) (f : H0 pA = none) (n : pA ≠ p) {t : Addr} {x y : Nat} (ht : H t = some (.tup [.int (x : Nat), .int (y : Nat)])) : PK H0 p pA (prs ++ [(t, x, y)]) (upd H pA (.lst ((prs.map fun x => V.ref x.1) ++ [.ref t]))) :=
  ⟨b.go.put f (Ne.symm n), by rw [upd_same, List.map_append]; rfl, fun z hz => by
    rcases List.mem_append.mp hz with hz | hz
    · exact at_upd (ne_of (b.tp z hz) b.hp (by intro z; cases z)) (b.tp z hz)
    · rw [List.mem_singleton] at hz
      subst hz
      exact at_upd (ne_of ht b.hp (by intro z; cases z)) ht⟩
end
/-- a graph: names, and edges among them -/
structure GrN (H : Hp) (g n e : Addr) (ns : List Str) (es : List (Addr × Str × Str)) : Prop where
  gr : GrAt H g n e ns es
  nm : ∀ x ∈ ns, IsName x
  nd : ns.Nodup
  mem : ∀ x ∈ es.map (·.2), x.1 ∈ ns ∧ x.2 ∈ ns
  so : ∀ x ∈ es.map (·.2), eOf x.1 x.2 = x
  ne : ∀ x ∈ es.map (·.2), x.1 ≠ x.2
  l1 : ns.length ≤ 100
  l2 : es.length ≤ 2000
section
variable {P : Program} {w : World} {K : PySem.W.Frag} {mg : Str → Option Value} {base : Heap}
end
end Law

/-! a def that calls itself -/
namespace Law
open PySem PySem.Spec PyProof.Rows L2 U
end Law

/-! k61: is_tree_below -/
namespace U
open PySem PySem.Spec PyProof.Rows L2
/-- a candidate: no tree, three texts, or a text, a name and parts -/
inductive Tr where
  | no
  | leaf (l x y : Str)
  | node (l x : Str) (ts : List Tr)
/-- a random tree in the heap -/
def RtAt : Nat → (Addr → Prop) → Hp → V → Tr → Prop
  | _, _, H, v, .no => v = .non ∨ v = .str "ab" ∨ ∃ a, v = .ref a ∧ (H a = some (.tup []) ∨ H a = some (.tup [.str "conflict", .int 1, .int 2]))
  | _, _, H, v, .leaf l x y => ∃ a, v = .ref a ∧ H a = some (.tup [.str l, .str x, .str y])
  | 0, _, _, _, .node _ _ _ => False
  | n + 1, p, H, v, .node l x ts => ∃ (a q : Addr) (vs : List V), v = .ref a ∧ H a = some (.tup [.str l, .str x, .ref q]) ∧ H q = some (.lst vs) ∧ ¬ p q ∧ Paired (RtAt n p H) vs ts
theorem Paired.mapR {α β : Type} {F G : α → β → Prop} (h : ∀ a b, F a b → G a b) : ∀ {xs : List α} {ys : List β}, Paired F xs ys → Paired G xs ys
  | _, _, .nil => .nil
  | _, _, .cons a r => .cons (h _ _ a) (Paired.mapR h r)
theorem RtAt.keep {p : Addr → Prop} {H H' : Hp} (kt : ∀ a xs, H a = some (.tup xs) → H' a = some (.tup xs)) (kl : ∀ a xs, ¬ p a → H a = some (.lst xs) → H' a = some (.lst xs)) : ∀ {n : Nat} {v : V} {t : Tr}, RtAt n p H v t → RtAt n p H' v t
  | n, v, .no, h => by
    unfold RtAt at h ⊢
    rcases h with h | h | ⟨a, e, h⟩
    · exact .inl h
    · exact .inr (.inl h)
    · exact .inr (.inr ⟨a, e, h.imp (kt _ _) (kt _ _)⟩)
  | n, v, .leaf l x y, h => by
    unfold RtAt at h ⊢
    obtain ⟨a, e, h⟩ := h
    exact ⟨a, e, kt _ _ h⟩
  | 0, v, .node l x ts, h => by
    unfold RtAt at h
    exact h.elim
  | n + 1, v, .node l x ts, h => by
    unfold RtAt at h ⊢
    obtain ⟨a, q, vs, e, h1, h2, h3, h4⟩ := h
    exact ⟨a, q, vs, e, kt _ _ h1, kl _ _ h3 h2, h3, Paired.mapR (fun a b z => RtAt.keep kt kl z) h4⟩
theorem RtAt.same {p : Addr → Prop} {H H' : Hp} {n : Nat} {v : V} {t : Tr} (h : RtAt n p H v t) (s : Same H H') : RtAt n p H' v t := h.keep (fun a xs => s _ _) (fun a xs _ => s _ _)
end U
namespace Law
open PySem PySem.Spec PyProof.Rows L2 U


theorem RtAt.go {W : Addr → Prop} {p : Addr} {H H' : Hp} {n : Nat} {v : V} {t : Tr} (h : RtAt n W H v t) (wp : W p) (hp : PoolAt H p) (g : Go p H H') : RtAt n W H' v t := h.keep (fun a xs z => g.at z (hp.offTB z)) (fun a xs ne z => g.at z fun e => ne (e ▸ wp))
theorem RtAt.mono {W W' : Addr → Prop} (w : ∀ a, W' a → W a) {H : Hp} : ∀ {n : Nat} {v : V} {t : Tr}, RtAt n W H v t → RtAt n W' H v t
  | n, v, .no, h => by
    unfold RtAt at h ⊢
    exact h
  | n, v, .leaf l x y, h => by
    unfold RtAt at h ⊢
    exact h
  | 0, v, .node l x ts, h => by
    unfold RtAt at h
    exact h.elim
  | n + 1, v, .node l x ts, h => by
    unfold RtAt at h ⊢
    obtain ⟨a, q, vs, e, h1, h2, h3, h4⟩ := h
    exact ⟨a, q, vs, e, h1, h2, fun z => h3 (w q z), Paired.mapR (fun a b z => RtAt.mono w z) h4⟩
theorem GrN.same {H H' : Hp} {g n e : Addr} {ns : List Str} {es : List (Addr × Str × Str)} (h : GrN H g n e ns es) (s : Same H H') : GrN H' g n e ns es := ⟨h.gr.same s, h.nm, h.nd, h.mem, h.so, h.ne, h.l1, h.l2⟩
theorem GrN.sok {H : Hp} {g n e : Addr} {ns : List Str} {es : List (Addr × Str × Str)} (h : GrN H g n e ns es) : ∀ x ∈ es.map (·.2), PyData.strOk x.1 = true ∧ PyData.strOk x.2 = true := fun x hx => ⟨(h.nm _ (h.mem x hx).1).sok, (h.nm _ (h.mem x hx).2).sok⟩
section
variable {P : Program} {w : World} {K : PySem.W.Frag} {mg : Str → Option Value} {base : Heap}
end
end Law

/-! k61: _law_tree, is_case_tree -/
namespace U
open PySem PySem.Spec PyProof.Rows L2
end U
namespace Law
open PySem PySem.Spec PyProof.Rows L2 U


section
variable {P : Program} {w : World} {K : PySem.W.Frag} {mg : Str → Option Value} {base : Heap}
end
end Law

/-! repr of whatever data -/
namespace U
open PySem PySem.Spec PyProof.Rows L2
section
variable {K : PySem.W.Frag} {H H' : Hp}
mutual
theorem dp_ext (l : ∀ a xs, SqL K H a xs → SqL K H' a xs) (t : ∀ a xs, SqT K H a xs → SqT K H' a xs) : ∀ (d : PyData) (v : V), Dp K H v d → Dp K H' v d
  | .none, _, h => by cases h; exact .non
  | .bool _, _, h => by cases h; exact .bl _
  | .int _, _, h => by cases h; exact .int _
  | .str _, _, h => by cases h; exact .str _
  | .list ds, _, h => by
    cases h with
    | lst h1 h2 => exact .lst (l _ _ h1) (dp_extA l t ds _ h2)
  | .tuple ds, _, h => by
    cases h with
    | tup h1 h2 => exact .tup (t _ _ h1) (dp_extA l t ds _ h2)
  | .dict _, _, h => by cases h
theorem dp_extA (l : ∀ a xs, SqL K H a xs → SqL K H' a xs) (t : ∀ a xs, SqT K H a xs → SqT K H' a xs) : ∀ (ds : List PyData) (vs : List V), DpAll K H vs ds → DpAll K H' vs ds
  | [], _, h => by cases h; exact .nil
  | d :: ds, _, h => by
    cases h with
    | cons h1 h2 => exact .cons (dp_ext l t d _ h1) (dp_extA l t ds _ h2)
end
end
/-- a value that repr may be asked of, and what repr says -/
inductive Rp (K : PySem.W.Frag) (H : Hp) : V → Str → Prop
  | non : Rp K H .non "None"
  | bl (b : Bool) : Rp K H (.bl b) (if b then "True" else "False")
  | int (i : Int) (h : i.natAbs.log2 < 1920) : Rp K H (.int i) (toString i)
  | str (x : Str) (h : (reprText x).length ≤ sizeLine) : Rp K H (.str x) (reprText x)
  | of {a : Addr} {d : PyData} : Dp K H (.ref a) d → d.hasDict = false → Shows d → Rp K H (.ref a) d.shown
  | dct {a : Addr} {ns : List Str} {f : Str → Int} : H a = some (.dK (kvF ns f)) → Shows (.dict (ns.map fun n => (.str n, .int (f n)))) → Rp K H (.ref a) (PyData.dict (ns.map fun n => (.str n, .int (f n)))).shown
theorem Rp.ext {K : PySem.W.Frag} {H H' : Hp} {v : V} {d : Str} (h : Rp K H v d) (l : ∀ a xs, SqL K H a xs → SqL K H' a xs) (t : ∀ a xs, SqT K H a xs → SqT K H' a xs) (k : ∀ a kvs, H a = some (.dK kvs) → H' a = some (.dK kvs)) : Rp K H' v d := by
  cases h with
  | non => exact .non
  | bl b => exact .bl b
  | int i h => exact .int i h
  | str x h => exact .str x h
  | of h1 h2 h3 => exact .of (dp_ext l t _ _ h1) h2 h3
  | dct h1 h2 => exact .dct (k _ _ h1) h2
theorem Rp.same {K : PySem.W.Frag} {H H' : Hp} {v : V} {d : Str} (h : Rp K H v d) (s : Same H H') : Rp K H' v d := h.ext
  (fun a xs q => by
    rcases q with (q | ⟨o, q⟩) | q
    · exact .inl (.inl (s _ _ q))
    · exact .inl (.inr ⟨o, s _ _ q⟩)
    · exact .inr q) (fun a xs q => Same.seqT s q) fun a kvs q => s _ _ q
def rReprV (K : PySem.W.Frag) : List V → Hp → VK → Prop := fun xs H Q => ∃ x S, xs = [x] ∧ Rp K H x S ∧ Q (.str S) H
theorem kReprV {X : Cx} (K : PySem.W.Frag) (hK : X.K = K) (hg : X.A.guards = some []) (hu : X.A.units + 64 < cLine) : CallR X (.builtin "repr") (rReprV K) := by
  subst hK
  intro pins s σ H xs us Q I r h
  obtain ⟨x, S, rfl, hr, q⟩ := h
  obtain ⟨u, eu, rx⟩ := vals1 r
  subst eu
  have fin : ∀ (a : Addr) (d : PyData) (as : List Addr), Reads s.heap (.ref a) d as → (d.hasDict = true → sysModules ∉ as) → Shows d → Q (.str d.shown) H → wpAny (model X.prog X.w) X.A (call (.builtin "repr") [.ref a]) (EP X pins σ Q) X.xe s := fun a d as rd hsm S q => by
    have hdp := S.dp
    exact PySem.repr_of_reads' rd S.sh hsm hg (by omega) (fun b o e => e) (fun h' v tk hk => ⟨.str d.shown, H, I.kept (t' := tk) hk, ⟨_, rfl⟩, q⟩) (PyData.shown_fits_bulk (by decide) (by decide) S.lv S.bk)
  cases hr with
  | non =>
    cases rx
    exact PySem.P.repr_of_none ⟨.str _, H, I.tok _, ⟨_, rfl⟩, q⟩
  | bl b =>
    cases rx
    exact PySem.P.repr_of_bool ⟨.str _, H, I.tok _, ⟨_, rfl⟩, q⟩
  | int i h =>
    obtain ⟨tk, rfl⟩ := rx
    exact PySem.P.repr_of_int h ⟨.str _, H, I.tok _, ⟨_, rfl⟩, q⟩
  | str x h =>
    obtain ⟨tk, rfl⟩ := rx
    exact PySem.P.repr_of_str ⟨.str _, H, I.tok _, ⟨_, rfl⟩, q⟩ h
  | of h1 h2 h3 =>
    cases rx
    obtain ⟨as, ra⟩ := Dp.reads I _ _ _ h1 rfl
    exact fin _ _ as ra (fun z => by rw [h2] at z; cases z) h3 q
  | dct h1 h2 =>
    cases rx
    obtain ⟨as, ra, na⟩ := (Di.dct (K := X.K) h1).reads I rfl
    exact fin _ _ as ra (fun _ => na) h2 q
theorem rd_reprV {K : PySem.W.Frag} {H : Hp} {Q : VK} {x : V} {d : Str} (h : Rp K H x d) (q : Q (.str d) H) : rReprV K [x] H Q := ⟨x, d, rfl, h, q⟩
end U

/-! sizes of shown data, put together from the parts -/
namespace U
open PySem PySem.Spec PyProof.Rows L2
/-- data that repr may be asked of: at most n of them, m deep -/
structure SmD (n m : Nat) (d : PyData) : Prop where
  lv : d.leavesShort 13 = true
  sh : d.showable = true
  bk : d.bulk ≤ n
  dp : d.depth ≤ m
  nd : d.hasDict = false
structure SmDs (n m : Nat) (ds : List PyData) : Prop where
  lv : PyData.leavesShortAll 13 ds = true
  sh : PyData.showableAll ds = true
  bk : PyData.bulkAll ds ≤ n
  dp : PyData.depthAll ds ≤ m
  nd : PyData.hasDictAll ds = false
theorem SmDs.nil : SmDs 0 0 [] := ⟨by simp [PyData.leavesShortAll], by simp [PyData.showableAll], by simp [PyData.bulkAll], by simp [PyData.depthAll], by simp [PyData.hasDictAll]⟩
theorem SmDs.cons {n m n2 m2 : Nat} {d : PyData} {ds : List PyData} (h : SmD n m d) (h2 : SmDs n2 m2 ds) : SmDs (n + 1 + n2) (m + m2) (d :: ds) := by
  obtain ⟨a1, a2, a3, a4, a5⟩ := h
  obtain ⟨b1, b2, b3, b4, b5⟩ := h2
  refine ⟨by rw [PyData.leavesShortAll, a1, b1]; rfl, by rw [PyData.showableAll, a2, b2]; rfl, ?_, ?_, by rw [PyData.hasDictAll, a5, b5]; rfl⟩
  · rw [PyData.bulkAll]
    omega
  · rw [PyData.depthAll]
    omega
theorem SmD.tup {n m : Nat} {ds : List PyData} (h : SmDs n m ds) : SmD n (m + 1) (.tuple ds) := by
  obtain ⟨b1, b2, b3, b4, b5⟩ := h
  exact ⟨by rw [PyData.leavesShort]; exact b1, by rw [PyData.showable]; exact b2, by rw [PyData.bulk]; exact b3, by rw [PyData.depth]; omega, by rw [PyData.hasDict]; exact b5⟩
theorem SmD.lst {n m : Nat} {ds : List PyData} (h : SmDs n m ds) : SmD n (m + 1) (.list ds) := by
  obtain ⟨b1, b2, b3, b4, b5⟩ := h
  exact ⟨by rw [PyData.leavesShort]; exact b1, by rw [PyData.showable]; exact b2, by rw [PyData.bulk]; exact b3, by rw [PyData.depth]; omega, by rw [PyData.hasDict]; exact b5⟩
theorem SmD.mono {n m n2 m2 : Nat} {d : PyData} (h : SmD n m d) (a : n ≤ n2) (b : m ≤ m2) : SmD n2 m2 d := ⟨h.lv, h.sh, Nat.le_trans h.bk a, Nat.le_trans h.dp b, h.nd⟩
theorem SmD.name {x : Str} (h : IsName x) : SmD 8 0 (.str x) := ⟨h.lv, by simp [PyData.showable], h.bk, by simp [PyData.depth], by simp [PyData.hasDict]⟩
theorem SmDs.names : ∀ {xs : List Str}, (∀ x ∈ xs, IsName x) → SmDs (9 * xs.length) 0 (xs.map PyData.str)
  | [], _ => SmDs.nil
  | x :: r, h => by
    have a := SmDs.cons (SmD.name (h x List.mem_cons_self)) (SmDs.names fun y hy => h y (List.mem_cons_of_mem _ hy))
    rw [List.map_cons, List.length_cons]
    exact ⟨a.lv, a.sh, by have := a.bk; omega, a.dp, a.nd⟩
theorem SmDs.of {n m : Nat} : ∀ {ds : List PyData}, (∀ d ∈ ds, SmD n m d) → SmDs ((n + 1) * ds.length) m ds
  | [], _ => ⟨SmDs.nil.lv, SmDs.nil.sh, by simp [PyData.bulkAll], by simp [PyData.depthAll], SmDs.nil.nd⟩
  | d :: ds, h => by
    obtain ⟨a1, a2, a3, a4, a5⟩ := h d List.mem_cons_self
    obtain ⟨b1, b2, b3, b4, b5⟩ := SmDs.of (n := n) (m := m) fun y hy => h y (List.mem_cons_of_mem _ hy)
    refine ⟨by rw [PyData.leavesShortAll, a1, b1]; rfl, by rw [PyData.showableAll, a2, b2]; rfl, ?_, ?_, by rw [PyData.hasDictAll, a5, b5]; rfl⟩
    · rw [PyData.bulkAll, List.length_cons, Nat.mul_succ]
      omega
    · rw [PyData.depthAll]
      omega
theorem SmD.shows {n m : Nat} {d : PyData} (h : SmD n m d) (a : n ≤ 2 ^ 20) (b : m ≤ 50) : Shows d := ⟨h.sh, h.lv, Nat.le_trans h.bk a, Nat.le_trans h.dp b⟩
theorem Dp.same {K : PySem.W.Frag} {H H' : Hp} {v : V} {d : PyData} (h : Dp K H v d) (s : Same H H') : Dp K H' v d := dp_ext
  (fun a xs q => by
    rcases q with (q | ⟨o, q⟩) | q
    · exact .inl (.inl (s _ _ q))
    · exact .inl (.inr ⟨o, s _ _ q⟩)
    · exact .inr q) (fun a xs q => Same.seqT s q) _ _ h
end U

/-! k61: _law_random_tree -/
namespace U
open PySem PySem.Spec PyProof.Rows L2
def TrOk : Nat → Tr → Prop
  | _, .no => True
  | _, .leaf l x y => SmD 8 0 (.str l) ∧ SmD 8 0 (.str x) ∧ SmD 8 0 (.str y)
  | 0, .node _ _ _ => False
  | n + 1, .node l x ts => SmD 8 0 (.str l) ∧ SmD 8 0 (.str x) ∧ ts.length ≤ 4 ∧ ∀ t ∈ ts, TrOk n t
def szT : Nat → Nat
  | 0 => 30
  | n + 1 => 4 * (szT n + 1) + 30
theorem szT_ge : ∀ n, 30 ≤ szT n
  | 0 => Nat.le_refl _
  | n + 1 => by
    show 30 ≤ 4 * (szT n + 1) + 30
    omega
theorem nm_conf : IsName "conflict" := ⟨by decide, by decide, by decide⟩
theorem sm_int {i : Int} (h0 : 0 ≤ i) (h1 : i < 3) : SmD 8 0 (.int i) := by
  obtain ⟨a, b⟩ := int3_lv h0 h1
  exact ⟨a, b, by simp [PyData.bulk], by simp [PyData.depth], by simp [PyData.hasDict]⟩
theorem RtAt.dp {K : PySem.W.Frag} {p : Addr → Prop} {H : Hp} : ∀ {n : Nat} {v : V} {t : Tr}, RtAt n p H v t → TrOk n t → ∃ d, Dp K H v d ∧ SmD (szT n) (2 * n + 1) d
  | n, v, .no, h, _ => by
    have := szT_ge n
    unfold RtAt at h
    rcases h with rfl | rfl | ⟨a, rfl, h | h⟩
    · exact ⟨_, .non, (show SmD 8 0 PyData.none from ⟨by simp [PyData.leavesShort], by simp [PyData.showable], by simp [PyData.bulk], by simp [PyData.depth], by simp [PyData.hasDict]⟩).mono (by omega) (by omega)⟩
    · exact ⟨_, .str _, (SmD.name (x := "ab") ⟨by decide, by decide, by decide⟩).mono (by omega) (by omega)⟩
    · exact ⟨_, .tup (SqT.of h) .nil, (SmD.tup SmDs.nil).mono (by omega) (by omega)⟩
    · exact ⟨_, .tup (SqT.of h) (.cons (.str _) (.cons (.int _) (.cons (.int _) .nil))), (SmD.tup (SmDs.cons (SmD.name nm_conf) (SmDs.cons (sm_int (by decide) (by decide)) (SmDs.cons (sm_int (by decide) (by decide)) SmDs.nil)))).mono (by omega) (by omega)⟩
  | n, v, .leaf l x y, h, ok => by
    have := szT_ge n
    unfold RtAt at h
    unfold TrOk at ok
    obtain ⟨a, rfl, h⟩ := h
    exact ⟨_, .tup (SqT.of h) (.cons (.str _) (.cons (.str _) (.cons (.str _) .nil))), (SmD.tup (SmDs.cons ok.1 (SmDs.cons ok.2.1 (SmDs.cons ok.2.2 SmDs.nil)))).mono (by omega) (by omega)⟩
  | 0, v, .node l x ts, h, _ => by
    unfold RtAt at h
    exact h.elim
  | n + 1, v, .node l x ts, h, ok => by
    unfold RtAt at h
    unfold TrOk at ok
    obtain ⟨a, q, vs, rfl, h1, h2, h3, pr⟩ := h
    obtain ⟨o1, o2, o3, o4⟩ := ok
    have all : ∃ ds : List PyData, DpAll K H vs ds ∧ ds.length = ts.length ∧ ∀ d ∈ ds, SmD (szT n) (2 * n + 1) d := by
      clear h2 o3
      induction pr with
      | nil => exact ⟨[], .nil, rfl, fun d h => nomatch h⟩
      | @cons b t xs ys z r ih =>
        obtain ⟨d, hd, sd⟩ := RtAt.dp z (o4 t List.mem_cons_self)
        obtain ⟨ds, hds, e, sds⟩ := ih fun t ht => o4 t (List.mem_cons_of_mem _ ht)
        refine ⟨d :: ds, .cons hd hds, congrArg (· + 1) e, fun z hz => ?_⟩
        rcases List.mem_cons.mp hz with rfl | hz
        · exact sd
        · exact sds z hz
    obtain ⟨ds, hds, e, sds⟩ := all
    refine ⟨_, .tup (SqT.of h1) (.cons (.str _) (.cons (.str _) (.cons (.lst (SqL.of h2) hds) .nil))), (SmD.tup (SmDs.cons o1 (SmDs.cons o2 (SmDs.cons (SmD.lst (SmDs.of sds)) SmDs.nil)))).mono ?_ (by omega)⟩
    show _ ≤ 4 * (szT n + 1) + 30
    have : (szT n + 1) * ds.length ≤ (szT n + 1) * 4 := Nat.mul_le_mul_left _ (by omega)
    omega
theorem rd_neNilE {K : PySem.W.Frag} {H : Hp} {Q : VK} {p q : Addr} {es : List (Addr × Str × Str)} (hp : SqL K H p (es.map fun x => V.ref x.1)) (pr : ∀ x ∈ es, SqT K H x.1 [.str x.2.1, .str x.2.2]) (hq : SqL K H q []) (ok : ∀ x ∈ es.map (·.2), PyData.strOk x.1 = true ∧ PyData.strOk x.2 = true) (h : Q (.bl (!es.isEmpty)) H) : rNeU K (.ref p) (.ref q) H Q := by
  obtain ⟨a, b⟩ := can_edges ok
  refine rd_neNilD hp (dp_edges pr) hq a (by omega) ?_
  rw [show (es.map fun x => V.ref x.1).isEmpty = es.isEmpty from by cases es <;> rfl]
  exact h
end U
namespace Law
open PySem PySem.Spec PyProof.Rows L2 U


theorem GrN.go {p : Addr} {H H' : Hp} {g n e : Addr} {ns : List Str} {es : List (Addr × Str × Str)} (h : GrN H g n e ns es) (hp : PoolAt H p) (b : Go p H H') : GrN H' g n e ns es :=
  ⟨⟨b.at h.gr.top (hp.offTB h.gr.top), b.at h.gr.nodes (hp.offTB h.gr.nodes), b.at h.gr.edges (hp.offTB h.gr.edges), fun x hx => b.at (h.gr.pairs x hx) (hp.offTB (h.gr.pairs x hx))⟩, h.nm, h.nd, h.mem, h.so, h.ne, h.l1, h.l2⟩
section
variable {P : Program} {w : World} {K : PySem.W.Frag} {mg : Str → Option Value} {base : Heap}
end
end Law

/-! random problems as they are used; neighbors, possible values, a random lift -/
namespace U
open PySem PySem.Spec PyProof.Rows L2
def possF (es : List (Str × Str)) (f : Str → Int) (pn : List Str) (n : Str) : List Int := if n ∈ pn then [] else ([0, 1, 2] : List Int).filter (freeB es f n)
theorem poss_legal {ns : List Str} {es : List (Str × Str)} {f : Str → Int} {pn : List Str} {n : Str} {v : Int} (hn : n ∈ ns) (h : v ∈ possF es f pn n) : Legal ns es f pn (n, v) := by
  unfold possF at h
  split at h
  · cases h
  · rename_i c
    refine legal_of (m := (n, v)) (List.mem_flatMap.mpr ⟨n, hn, ?_⟩)
    rw [if_neg c]
    exact List.mem_map_of_mem h
theorem nbr_cons {es : List (Str × Str)} {x : Str} {e : Str × Str} (n : e.1 ≠ e.2) : ((if e.1 = x then [e.2] else []) ++ (if e.2 = x then [e.1] else [])) = if x = e.1 ∨ x = e.2 then [if e.2 = x then e.1 else e.2] else [] := by
  by_cases a : e.1 = x
  · have b : ¬ e.2 = x := fun z => n (a.trans z.symm)
    rw [if_pos a, if_neg b, if_pos (.inl a.symm), if_neg b]
    rfl
  · by_cases b : e.2 = x
    · rw [if_neg a, if_pos b, if_pos (.inr b.symm), if_pos b]
      rfl
    · rw [if_neg a, if_neg b, if_neg (fun z => z.elim (fun z => a z.symm) fun z => b z.symm)]
      rfl
end U
namespace Law
open PySem PySem.Spec PyProof.Rows L2 U


theorem use_problem {H : Hp} {p : Addr} {most : Int} {Q : VK} {E : XK} (h : PoolAt H p) (m0 : 0 ≤ most) (m1 : most ≤ 25)
    (k : ∀ (t g n e st ps : Addr) (ns ord pn : List Str) (es : List (Addr × Str × Str)) (f : Str → Int) (H' : Hp), Go p H H' → H t = none → H g = none → H st = none → H ps = none → H' t = some (.tup [.ref g, .ref st, .ref ps]) → GSt H' g n e st ns ord es f → H' ps = some (.tup (pn.map V.str)) → (∀ x ∈ pn, x ∈ ns) → pn.length ≤ ns.length → Asc pn → (ns.length : Int) ≤ most → Q (.ref t) H') : spProblem [.ref p, .int most] H Q E :=
  ⟨p, most, rfl, h, m0, m1, fun t g n e st ps ns ord pn es f H' go f1 f2 f3 f4 ht gr ok pm ln le hs tri pro hps pin pl asc => k t g n e st ps ns ord pn es f H' go f1 f2 f3 f4 ht ⟨gr, ok, pm, by omega, le, hs, tri, pro⟩ hps pin pl asc ln⟩
def spNbrL : Sp := fun vs H Q _ => ∃ (g n e : Addr) (x : Str) (ns : List Str) (es : List (Addr × Str × Str)), vs = [.ref g, .str x] ∧ GrAt H g n e ns es ∧ es.length ≤ 10000 ∧ (∀ y ∈ es, y.2.1 ≠ y.2.2) ∧
  ∀ (l : Addr) (H' : Hp), Same H H' → H l = none → H' l = some (.lst ((nbrF (es.map (·.2)) x).map V.str)) → Q (.ref l) H'
def spPoss (K : PySem.W.Frag) : Sp := fun vs H Q _ => ∃ (g n e st ps : Addr) (x : Str) (ns ord pn : List Str) (es : List (Addr × Str × Str)) (f : Str → Int), vs = [.ref g, .ref st, .ref ps, .str x] ∧ GSt H g n e st ns ord es f ∧ SqT K H ps (pn.map V.str) ∧ x ∈ ns ∧
  ∀ (l : Addr) (H' : Hp), Same H H' → H l = none → H' l = some (.lst ((possF (es.map (·.2)) f pn x).map V.int)) → Q (.ref l) H'
def spRandLift (K : PySem.W.Frag) : Sp := fun vs H Q _ => ∃ (p g n e st ps : Addr) (size : Int) (ns ord pn : List Str) (es : List (Addr × Str × Str)) (f : Str → Int), vs = [.ref p, .ref g, .ref st, .ref ps, .int size] ∧ PoolAt H p ∧ GSt H g n e st ns ord es f ∧ H ps = some (.tup (pn.map V.str)) ∧ 0 ≤ size ∧ size ≤ 100 ∧
  ∀ (d : Addr) (h : Str → Int) (ms : List (Str × Int)) (f' : Str → Int) (H' : Hp), Go p H H' → H d = none → H' d = some (.dK (kvF ns h)) → Plays ns (es.map (·.2)) pn f ms f' → h = (countF f (fun _ => 0) ms).2 → (∀ x ∈ ns, -size ≤ h x ∧ h x ≤ size) → Q (.ref d) H'
theorem GSt.cur {H : Hp} {g n e st c : Addr} {ns ord : List Str} {es : List (Addr × Str × Str)} {f f' : Str → Int} (gs : GSt H g n e st ns ord es f) (hc : H c = some (.dK (kvF ord f'))) (ok : EsOk ns (es.map (·.2)) f') : GSt H g n e c ns ord es f' := ⟨gs.gr, gs.ok, gs.pm, gs.l2, gs.l3, hc, ok.tri, fun x hx => ok.pro _ (List.mem_map_of_mem hx)⟩
theorem GSt.neq {H : Hp} {g n e st : Addr} {ns ord : List Str} {es : List (Addr × Str × Str)} {f : Str → Int} (gs : GSt H g n e st ns ord es f) : ∀ y ∈ es, y.2.1 ≠ y.2.2 := fun y hy z => gs.pro y hy (by rw [z])
section
variable {P : Program} {w : World} {K : PySem.W.Frag} {mg : Str → Option Value} {base : Heap}
theorem ok_nbrL {f : Addr} {fd : FuncData} (F : Fun K "_law_neighbors" "_law_neighbors" s__law_neighbors f fd) (B : Bt mg) : FnG P w K mg base CX0 1 f fd ["_law_graph", "_law_node"] spNbrL := by
  refine fnG0 F sc__law_neighbors (fun vs H Q E h => ?_) (fun cdv A outer s H vs Q E hr h => ?_)
  · obtain ⟨g, n, e, x, ns, es, rfl, _⟩ := h
    rfl
  · obtain ⟨g, n, e, x, ns, es, rfl, hg, hl, ne, q⟩ := h
    have nd := sc__law_neighbors.nd
    have hu := hr.u1
    refine ⟨_, (pss_one (ps_ret (pe_lc (own := [("_law_one", 2), ("_law_other", 3)]) rfl nd (ki_tup K rfl (pe_ix (kIx K rfl) (pv 0) pe_int (fun _ _ => rfl))) (blkOk_by (own := [("_law_one", 2), ("_law_other", 3)]) (N := nN__law_neighbors) (sc := defScope s__law_neighbors) (by decide +kernel)) (fun _ _ _ _ _ => (kg_tup (n := 2) K rfl rfl (pgs_cons (pg_name (i := 2) nd rfl (by first | exact Or.inl rfl | exact Or.inr rfl)) (pgs_cons (pg_name (i := 3) nd rfl (by first | exact Or.inl rfl | exact Or.inr rfl)) pgs_nil)))) (fun _ _ _ _ _ => (pts_one (pt_cmpR (kIn K rfl) (pv 1) (pe_tup (pa_cons (pv 2) (pa_cons (pv 3) pa_nil))) rfl))) (fun _ _ _ _ _ => (pe_ifExp (pt_cmpR (kEq K rfl hr.u64) (pv 3) (pv 1) (nomark _)) (pv 2) (pv 3)))))), ?_⟩
    wtm_at "rd"
    refine rd_ixT (SqT.of hg.top) (v := .ref e) rfl ?_
    refine rd_forT (SqT.of hg.edges) ?_
    intro D fD
    refine lcT (K := K) (xs := es.map fun x => V.ref x.1) (fun i H' => Same H H' ∧ H' D = some (.lst ((nbrF ((es.map (·.2)).take i) x).map V.str))) ⟨Same.new fD, upd_same⟩ ?_ ?_ ?_
    · rintro i H' hi ⟨s, _⟩
      exact SqT.of (hg.same s).edges
    · rintro i y H' hy ⟨s, hD⟩
      obtain ⟨hi, rfl⟩ := map_at hy
      have hi2 : i < (es.map (·.2)).length := by rw [List.length_map]; exact hi
      have st := nbrF_take (x := x) hi2
      rw [List.getElem_map] at st
      have len : (nbrF ((es.map (·.2)).take i) x).length ≤ 2 * i := by
        have := nbrF_len (x := x) (es := (es.map (·.2)).take i)
        rw [List.length_take] at this
        omega
      have ee := ne _ (List.getElem_mem hi)
      rw [nbr_cons (es := []) ee] at st
      have hp := (hg.same s).pairs es[i] (List.getElem_mem hi)
      generalize es[i] = e1 at *
      refine rd_unp (SqT.of hp) rfl ?_
      wtm_at "rd"
      intro t ft
      have kt := Same.new (o := .tup [.str e1.2.1, .str e1.2.2]) ft
      have ht := @upd_same H' t (.tup [.str e1.2.1, .str e1.2.2])
      have hD := kt _ _ hD
      have s := s.trans kt
      generalize upd H' t (.tup [.str e1.2.1, .str e1.2.2]) = Ha at ht hD s
      clear kt ft
      wtm_at "rd"
      refine rd_inST (xs := [e1.2.1, e1.2.2]) (SqT.of ht) ?_
      wtm_at "rd"
      refine rd_split (fun c => ?_) (fun c => ?_)
      · have c : x = e1.2.1 ∨ x = e1.2.2 := by simpa using c
        rw [if_pos c] at st
        wtm_at "rd"
        refine rd_split (fun c2 => ?_) (fun c2 => ?_)
        · rw [if_pos c2] at st
          wtm_at "rd"
          refine rd_acc hD (by rw [List.length_map]; omega) ?_
          exact ⟨same_put s fD, by rw [upd_same, st, List.map_append]; rfl⟩
        · rw [if_neg c2] at st
          wtm_at "rd"
          refine rd_acc hD (by rw [List.length_map]; omega) ?_
          exact ⟨same_put s fD, by rw [upd_same, st, List.map_append]; rfl⟩
      · have c : ¬ (x = e1.2.1 ∨ x = e1.2.2) := by simpa using c
        rw [if_neg c, List.append_nil] at st
        exact ⟨s, by rw [st]; exact hD⟩
    · rintro H' ⟨s, hD⟩
      rw [List.length_map, List.take_of_length_le (by rw [List.length_map]; exact Nat.le_refl _)] at hD
      exact q D H' s fD hD
structure B4a (P : Program) (w : World) (K : PySem.W.Frag) (mg : Str → Option Value) (base : Heap) : Prop where
  _law_neighbors : Cal P w K mg base CX0 1 "_law_neighbors" spNbrL
theorem ok_possB {f : Addr} {fd : FuncData} (F : Fun K "_law_possible" "_law_possible" s__law_possible f fd) (B : Bt mg) (C : B4a P w K mg base) : FnG P w K mg base CX0 2 f fd ["_law_graph", "_law_state", "_law_pins", "_law_node"] (spPoss K) := by
  refine fnG0 F sc__law_possible (fun vs H Q E h => ?_) (fun cdv A outer s H vs Q E hr h => ?_)
  · obtain ⟨g, n, e, st, ps, x, ns, ord, pn, es, f, rfl, _⟩ := h
    rfl
  · obtain ⟨g, n, e, st, ps, x, ns, ord, pn, es, f, rfl, gs, hps, hx, q⟩ := h
    have nd := sc__law_possible.nd
    have hu := hr.u1
    refine ⟨_, (pss_cons (ps_set (i := 4) nd rfl (by first | exact Or.inl rfl | exact Or.inr rfl) (pe_op (kAdd K rfl) (pe_lst (pa_cons (pe_dget hu (pv 1) (pv 3) (fun _ _ => rfl)) pa_nil)) (pe_lc (own := [("_law_other", 5)]) rfl nd (ki_list K rfl (pe_c C._law_neighbors hr (by decide) rfl (pa_cons (pv 0) (pa_cons (pv 3) pa_nil)))) (blkOk_by (own := [("_law_other", 5)]) (N := nN__law_possible) (sc := defScope s__law_possible) (by decide +kernel)) (fun _ _ _ _ _ => (pg_name (i := 5) nd rfl (by first | exact Or.inl rfl | exact Or.inr rfl))) (fun _ _ _ _ _ => pts_nil) (fun _ _ _ _ _ => (pe_dget hu (pv 1) (pv 5) (fun _ _ => rfl))))))
  (pss_one (ps_ret (pe_lc (own := [("_law_value", 6)]) rfl nd (pi_range1 rfl B.range (pa_cons pe_int pa_nil)) (blkOk_by (own := [("_law_value", 6)]) (N := nN__law_possible) (sc := defScope s__law_possible) (by decide +kernel)) (fun _ _ _ _ _ => (pg_name (i := 6) nd rfl (by first | exact Or.inl rfl | exact Or.inr rfl))) (fun _ _ _ _ _ => (pts_one (PW.pt (pw_and (pt_cmpR (kNotIn K rfl) (pv 6) (pv 4) rfl) (pw_and1 (pt_cmpR (kNotIn K rfl) (pv 3) (pv 2) rfl)))))) (fun _ _ _ _ _ => (pv 6)))))), ?_⟩
    wtm_at "rd"
    refine rd_dat (.inl gs.st) (kvF_val (gs.inO _ hx)) rfl ?_
    wtm_at "rd"
    intro a1 fa1
    have s1 := Same.new (o := .lst [.int (f x)]) fa1
    have ha1 := @upd_same H a1 (.lst [.int (f x)])
    generalize upd H a1 (.lst [.int (f x)]) = H1 at s1 ha1
    have gs1 := gs.same s1
    wtm_at "rd"
    refine ⟨g, n, e, x, ns, es, rfl, gs1.gr, Nat.le_trans gs1.l3 (by decide), gs1.neq, fun l H2 s2 fl hl => ?_⟩
    have gs2 := gs1.same s2
    have ha2 := s2 _ _ ha1
    have nb : ∀ y ∈ nbrF (es.map (·.2)) x, y ∈ ns := fun y hy => (adj_in gs.eok (show Adj _ x y from mem_nbrF.mp hy)).2.1
    have nl := nbrF_len (x := x) (es := es.map (·.2))
    rw [List.length_map] at nl
    have l3 := gs.l3
    generalize hnb : nbrF (es.map (·.2)) x = nbs at *
    refine rd_forL (SqL.of hl) ?_
    intro D fD
    refine lcL (K := K) (xs := nbs.map V.str) (fun i H' => Same H2 H' ∧ H' D = some (.lst (((nbs.take i).map f).map V.int))) ⟨Same.new fD, upd_same⟩ ?_ ?_ ?_
    · rintro i H' hi ⟨s, _⟩
      exact SqL.of (s _ _ hl)
    · rintro i y H' hy ⟨s, hD⟩
      obtain ⟨hi, rfl⟩ := map_at hy
      have yin := nb _ (List.getElem_mem hi)
      wtm_at "rd"
      refine rd_dat (.inl (s _ _ gs2.st)) (kvF_val (gs.inO _ yin)) rfl ?_
      refine rd_acc hD (by rw [List.length_map, List.length_map, List.length_take]; omega) ?_
      refine ⟨same_put s fD, ?_⟩
      rw [upd_same, take_snoc hi, List.map_append, List.map_append]
      rfl
    rintro H3 ⟨s3, hD⟩
    rw [List.length_map, List.take_length] at hD
    have ha3 := s3 _ _ ha2
    refine rd_catL (xs := [.int (f x)]) ha3 hD (by rw [List.length_map, List.length_map]; show 1 + _ ≤ 100000; omega) ?_
    intro sA fsA
    have s4 := Same.new (o := .lst ([.int (f x)] ++ (nbs.map f).map V.int)) fsA
    have hsA := @upd_same H3 sA (.lst ([.int (f x)] ++ (nbs.map f).map V.int))
    generalize upd H3 sA (.lst ([.int (f x)] ++ (nbs.map f).map V.int)) = H4 at s4 hsA
    have s04 := ((s1.trans s2).trans s3).trans s4
    have hps4 := Same.seqT s04 hps
    clear s1 s2 s3 s4 ha1 ha2 ha3 hD fD fa1 fl hl gs1 gs2
    wtm_at "rd"
    intro E fE
    refine lcR (fun i H' => Same H4 H' ∧ H' E = some (.lst (((([0, 1, 2] : List Int).take i).filter fun v => freeB (es.map (·.2)) f x v && decide (x ∉ pn)).map V.int))) ⟨Same.new fE, upd_same⟩ ?_ ?_
    · rintro i H' hi ⟨s, hE⟩
      have hi : i < 3 := hi
      have tk : (([0, 1, 2] : List Int).take (i + 1)) = ([0, 1, 2] : List Int).take i ++ [(i : Int)] := by
        have : i = 0 ∨ i = 1 ∨ i = 2 := by omega
        rcases this with rfl | rfl | rfl <;> rfl
      have len : ((([0, 1, 2] : List Int).take i).filter fun v => freeB (es.map (·.2)) f x v && decide (x ∉ pn)).length ≤ 3 := Nat.le_trans (List.length_filter_le _ _) (by rw [List.length_take]; exact Nat.min_le_right _ _)
      have e0 : (0 + (i : Int)) = (i : Int) := Int.zero_add _
      rw [e0, tk, List.filter_append, List.map_append]
      have fb : freeB (es.map (·.2)) f x (i : Int) = !decide ((i : Int) ∈ [f x] ++ nbs.map f) := by
        unfold freeB
        rw [hnb]
        congr 1
        rw [decide_eq_decide, List.mem_append, List.mem_append, Or.comm]
      wtm_at "rd"
      refine rd_ninIL (xs := [f x] ++ nbs.map f) (SqL.of (by rw [List.map_append]; exact s _ _ hsA)) ?_
      rw [← fb]
      wtm_at "rd"
      refine rd_b (fun c => ?_) (fun c => ?_)
      · wtm_at "rd"
        refine rd_ninST (Same.seqT s hps4) ?_
        wtm_at "rd"
        refine rd_nsplit (fun c2 => ?_) (fun c2 => ?_)
        · wtm_at "rd"
          refine rd_acc hE (by rw [List.length_map]; omega) ?_
          refine ⟨same_put s fE, ?_⟩
          rw [upd_same, List.filter_cons, c, decide_eq_true c2]
          rfl
        · refine ⟨s, ?_⟩
          rw [show ([(i : Int)].filter fun v => freeB (es.map (·.2)) f x v && decide (x ∉ pn)) = [] from by rw [List.filter_cons, decide_eq_false (fun z => z c2), Bool.and_false]; rfl, List.map_nil, List.append_nil]
          exact hE
      · wtm_at "rd"
        refine ⟨s, ?_⟩
        rw [List.filter_cons, c, Bool.false_and, if_neg Bool.false_ne_true, List.filter_nil, List.map_nil, List.append_nil]
        exact hE
    · rintro H5 ⟨s, hE⟩
      wtm_at "rd"
      refine q E H5 (s04.trans s) (new_of_same s04 fE) ?_
      rw [hE]
      congr 3
      show ([0, 1, 2] : List Int).filter _ = possF _ f pn x
      unfold possF
      by_cases c : x ∈ pn
      · rw [if_pos c, List.filter_eq_nil_iff]
        intro a _ z
        rw [decide_eq_false (fun z => z c), Bool.and_false] at z
        exact Bool.false_ne_true z
      · rw [if_neg c]
        congr 1
        funext v
        rw [decide_eq_true c, Bool.and_true]
structure B4b (P : Program) (w : World) (K : PySem.W.Frag) (mg : Str → Option Value) (base : Heap) : Prop where
  _law_draw : Cal P w K mg base CX0 1 "_law_draw" spDraw
  _law_possible : Cal P w K mg base CX0 2 "_law_possible" (spPoss K)
theorem ok_rand_lift {f : Addr} {fd : FuncData} (F : Fun K "_law_random_lift" "_law_random_lift" s__law_random_lift f fd) (B : Bt mg) (C : B4b P w K mg base) : FnG P w K mg base CX0 3 f fd ["_law_source", "_law_graph", "_law_state", "_law_pins", "_law_size"] (spRandLift K) := by
  refine fnG0 F sc__law_random_lift (fun vs H Q E h => ?_) (fun cdv A outer s H vs Q E hr h => ?_)
  · obtain ⟨p, g, n, e, st, ps, size, ns, ord, pn, es, f, rfl, _⟩ := h
    rfl
  · obtain ⟨p, g, n, e, st, ps, size, ns, ord, pn, es, f, rfl, hp, gs, hps, z0, z1, q⟩ := h
    have nd := sc__law_random_lift.nd
    have hu := hr.u1
    refine ⟨_, (pss_cons (ps_set (i := 5) nd rfl (by first | exact Or.inl rfl | exact Or.inr rfl) (pe_c C._law_draw hr (by decide) rfl (pa_cons (pv 0) (pa_cons pe_int pa_nil))))
  (pss_cons (ps_set (i := 6) nd rfl (by first | exact Or.inl rfl | exact Or.inr rfl) pe_dnewK)
  (pss_cons (ps_set (i := 7) nd rfl (by first | exact Or.inl rfl | exact Or.inr rfl) pe_dnewK)
  (pss_cons (ps_for PassesOwn.never rfl (ki_tup K rfl (pe_ix (kIx K rfl) (pv 1) pe_int (fun _ _ => rfl))) (pg_name (i := 8) nd rfl (by first | exact Or.inl rfl | exact Or.inr rfl)) (pss_cons (ps_set (i := 9) nd rfl (by first | exact Or.inl rfl | exact Or.inr rfl) (pe_c C._law_draw hr (by decide) rfl (pa_cons (pv 0) (pa_cons (pe_op (kAdd K rfl) (pv 4) pe_int) pa_nil))))
  (C8.pss_cut (ps_if (PW.pt (pw_or (pt_cmpR (kEq K rfl hr.u64) (pv 5) pe_int (nomark _)) (pw_or1 (PW.pt (pw_and (pt_cmpR (kEq K rfl hr.u64) (pv 5) pe_int (nomark _)) (pw_and1 (pt_cmpR (kEq K rfl hr.u64) (pe_c C._law_draw hr (by decide) rfl (pa_cons (pv 0) (pa_cons pe_int pa_nil))) pe_int (nomark _)))))))) (pss_one (ps_set (i := 9) nd rfl (by first | exact Or.inl rfl | exact Or.inr rfl) (pe_op uSub pe_int (pv 9)))) pss_nil)
  (pss_cons (ps_dput hu (pv 6) (pv 8) (pv 9) rfl)
  (pss_one (ps_dput hu (pv 7) (pv 8) pe_int rfl))))))
  (pss_cons (ps_set (i := 10) nd rfl (by first | exact Or.inl rfl | exact Or.inr rfl) (pe_callTy cDict (by rfl) B.dict bb_dict (pa_cons (pv 2) pa_nil)))
  (pss_cons (ps_for PassesOwn.never rfl (pi_range1 rfl B.range (pa_cons pe_int pa_nil)) (pg_name (i := 11) nd rfl (by first | exact Or.inl rfl | exact Or.inr rfl)) (pss_one (ps_for PassesOwn.never rfl (ki_tup K rfl (pe_ix (kIx K rfl) (pv 1) pe_int (fun _ _ => rfl))) (pg_name (i := 8) nd rfl (by first | exact Or.inl rfl | exact Or.inr rfl)) (pss_cons (ps_set (i := 12) nd rfl (by first | exact Or.inl rfl | exact Or.inr rfl) (pe_op uSub (pe_dget hu (pv 6) (pv 8) (fun _ _ => rfl)) (pe_dget hu (pv 7) (pv 8) (fun _ _ => rfl))))
  (C8.pss_cut (ps_set (i := 13) nd rfl (by first | exact Or.inl rfl | exact Or.inr rfl) (pe_ifExp (pt_cmpR uGt (pv 12) pe_int (nomark _)) (pe_op uMod (pe_op (kAdd K rfl) (pe_dget hu (pv 10) (pv 8) (fun _ _ => rfl)) pe_int) pe_int) (pe_op uMod (pe_op (kAdd K rfl) (pe_dget hu (pv 10) (pv 8) (fun _ _ => rfl)) pe_int) pe_int)))
  (pss_one (ps_if (PW.pt (pw_and (pt_cmpR (kNe K rfl hr.u64) (pv 12) pe_int (nomark _)) (pw_and1 (pt_cmpR (kIn K rfl) (pv 13) (pe_c C._law_possible hr (by decide) rfl (pa_cons (pv 1) (pa_cons (pv 10) (pa_cons (pv 3) (pa_cons (pv 8) pa_nil))))) rfl)))) (pss_cons (ps_dput hu (pv 10) (pv 8) (pv 13) rfl)
  (pss_one (ps_dput hu (pv 7) (pv 8) (pe_ifExp (pt_cmpR uGt (pv 12) pe_int (nomark _)) (pe_op (kAdd K rfl) (pe_dget hu (pv 7) (pv 8) (fun _ _ => rfl)) pe_int) (pe_op uSub (pe_dget hu (pv 7) (pv 8) (fun _ _ => rfl)) pe_int)) rfl))) pss_nil)))))))
  (pss_one (ps_ret (pv 7))))))))), ?_⟩
    have l2 := gs.l2
    wtm_at "rd"
    refine use_draw hp (by decide) (by decide) fun mode H1 _ _ g1 => ?_
    wtm_at "rd"
    intro wA fwA
    have fwA0 := g1.free _ fwA
    have nwp := g1.pool.ne fwA
    have g2 := g1.new (o := .dK []) fwA
    have hwA := @upd_same H1 wA (.dK [])
    generalize upd H1 wA (.dK []) = H2 at g2 hwA
    wtm_at "rd"
    intro lA flA
    have flA0 := g2.free _ flA
    have nlp := g2.pool.ne flA
    have nwl := ne_of_none hwA flA
    have g3 := g2.new (o := .dK []) flA
    have hwA := at_upd (o := .dK []) nwl hwA
    have hlA := @upd_same H2 lA (.dK [])
    generalize upd H2 lA (.dK []) = H3 at g3 hwA hlA
    clear g1 g2 fwA flA
    wtm_at "rd"
    refine rd_ixT (SqT.of (gs.go hp g3).gr.top) (v := .ref n) rfl ?_
    refine rd_forT (SqT.of (gs.go hp g3).gr.nodes) ?_
    refine turnsT (K := K) (xs := ns.map V.str) (fun i σ H' => ∃ (wf : Str → Int) (u8 u9 u10 u11 u12 u13 : Option V), σ = [some (.ref p), some (.ref g), some (.ref st), some (.ref ps), some (.int size), some (.int mode), some (.ref wA), some (.ref lA), u8, u9, u10, u11, u12, u13] ∧ Go p H H' ∧ H' wA = some (.dK (kvF (ns.take i) wf)) ∧ H' lA = some (.dK (kvF (ns.take i) fun _ => 0)) ∧ ∀ x ∈ ns.take i, -size ≤ wf x ∧ wf x ≤ size) ⟨fun _ => 0, _, _, _, _, _, _, rfl, g3, hwA, hlA, fun x h => by rw [List.take_zero] at h; cases h⟩ ?_ ?_ ?_
    · rintro i σ H' hi ⟨wf, u8, u9, u10, u11, u12, u13, rfl, ga, _⟩
      exact SqT.of (gs.go hp ga).gr.nodes
    · rintro i y σ H' hy ⟨wf, u8, u9, u10, u11, u12, u13, rfl, ga, hwA, hlA, bd⟩
      obtain ⟨hi, rfl⟩ := map_at hy
      have nin := not_take gs.nd hi
      have tk := take_snoc hi
      wtm_at "rd"
      refine use_draw ga.pool (by omega) (by omega) fun amt Ha m0 m1 gb => ?_
      have hwA := gb.at hwA (Ne.symm nwp)
      have hlA := gb.at hlA (Ne.symm nlp)
      have ga := ga.trans gb
      clear gb
      wtm_at "rd"
      refine ⟨fun σ' H2 => ∃ a' : Int, σ' = [some (.ref p), some (.ref g), some (.ref st), some (.ref ps), some (.int size), some (.int mode), some (.ref wA), some (.ref lA), some (.str ns[i]), some (.int a'), u10, u11, u12, u13] ∧ -size ≤ a' ∧ a' ≤ size ∧ Go p H H2 ∧ H2 wA = some (.dK (kvF (ns.take i) wf)) ∧ H2 lA = some (.dK (kvF (ns.take i) fun _ => 0)), ?_, ?_⟩
      · wtm_at "rd"
        refine rd_split (fun c1 => ?_) (fun c1 => ?_)
        · wtm_at "rd"
          exact ⟨_, rfl, by omega, by omega, ga, hwA, hlA⟩
        · wtm_at "rd"
          refine rd_split (fun c2 => ?_) (fun c2 => ?_)
          · wtm_at "rd"
            refine use_draw ga.pool (by decide) (by decide) fun r Hb _ _ gb => ?_
            have hwA := gb.at hwA (Ne.symm nwp)
            have hlA := gb.at hlA (Ne.symm nlp)
            have ga := ga.trans gb
            wtm_at "rd"
            refine rd_split (fun c3 => ?_) (fun c3 => ?_)
            · wtm_at "rd"
              exact ⟨_, rfl, by omega, by omega, ga, hwA, hlA⟩
            · wtm_at "rd"
              exact ⟨_, rfl, by omega, by omega, ga, hwA, hlA⟩
          · wtm_at "rd"
            exact ⟨_, rfl, by omega, by omega, ga, hwA, hlA⟩
      rintro σ' H2 ⟨a', rfl, a0, a1, ga, hwA, hlA⟩
      have kl : (kvF (ns.take i) wf).length < 100000 := by rw [List.length_map, List.length_take]; omega
      wtm_at "rd"
      refine rd_dset hwA (k := .inr ns[i]) rfl kl ?_
      rw [kvF_new nin, ← tk]
      wtm_at "rd"
      refine rd_dset (at_upd (Ne.symm nwl) hlA) (k := .inr ns[i]) rfl (by rw [List.length_map, List.length_take]; omega) ?_
      rw [kvF_new nin, ← tk]
      refine ⟨updf wf ns[i] a', _, _, _, _, _, _, rfl, (ga.put fwA0 nwp).put flA0 nlp, at_upd nwl upd_same, ?_, fun x hx => ?_⟩
      · rw [upd_same]
        congr 2
        refine kvF_congr fun x hx => ?_
        unfold updf
        split <;> rfl
      · unfold updf
        split
        · exact ⟨a0, a1⟩
        · rename_i c
          rw [tk] at hx
          rcases List.mem_append.mp hx with hx | hx
          · exact bd x hx
          · exact absurd (List.mem_singleton.mp hx) c
    · rintro σ H4 ⟨wf, u8, u9, u10, u11, u12, u13, rfl, ga, hwA, hlA, bd⟩
      rw [List.length_map, List.take_length] at hwA hlA bd
      have gs4 := gs.go hp ga
      wtm_at "rd"
      refine ⟨_, .inl gs4.st, fun cA fcA => ?_⟩
      have fcA0 := ga.free _ fcA
      have ncp := ga.pool.ne fcA
      have nwc := ne_of_none hwA fcA
      have nlc := ne_of_none hlA fcA
      have ga := ga.new (o := .dK (kvF ord f)) fcA
      have hwA := at_upd (o := .dK (kvF ord f)) nwc hwA
      have hlA := at_upd (o := .dK (kvF ord f)) nlc hlA
      have hcA := @upd_same H4 cA (.dK (kvF ord f))
      generalize upd H4 cA (.dK (kvF ord f)) = H5 at ga hwA hlA hcA
      clear gs4 fcA g3
      wtm_at "rd"
      refine turnsR (fun k σ H' => ∃ (ms : List (Str × Int)) (f' h' : Str → Int) (u8 u9 u11 u12 u13 : Option V), σ = [some (.ref p), some (.ref g), some (.ref st), some (.ref ps), some (.int size), some (.int mode), some (.ref wA), some (.ref lA), u8, u9, some (.ref cA), u11, u12, u13] ∧ Go p H H' ∧ H' wA = some (.dK (kvF ns wf)) ∧ H' lA = some (.dK (kvF ns h')) ∧ H' cA = some (.dK (kvF ord f')) ∧ Plays ns (es.map (·.2)) pn f ms f' ∧ countF f (fun _ => 0) ms = (f', h') ∧ ∀ x ∈ ns, min 0 (wf x) ≤ h' x ∧ h' x ≤ max 0 (wf x)) ⟨[], f, fun _ => 0, _, _, _, _, _, rfl, ga, hwA, hlA, hcA, .nil, rfl, fun x _ => by show min 0 (wf x) ≤ 0 ∧ 0 ≤ max 0 (wf x); omega⟩ ?_ ?_
      · rintro k σ H' hk ⟨ms, f', h', u8, u9, u11, u12, u13, rfl, ga, hwA, hlA, hcA, pl, ce, bh⟩
        wtm_at "rd"
        refine rd_ixT (SqT.of (gs.go hp ga).gr.top) (v := .ref n) rfl ?_
        refine rd_forT (SqT.of (gs.go hp ga).gr.nodes) ?_
        refine turnsT (K := K) (xs := ns.map V.str) (fun i σ H' => ∃ (ms : List (Str × Int)) (f' h' : Str → Int) (u8 u9 u11 u12 u13 : Option V), σ = [some (.ref p), some (.ref g), some (.ref st), some (.ref ps), some (.int size), some (.int mode), some (.ref wA), some (.ref lA), u8, u9, some (.ref cA), u11, u12, u13] ∧ Go p H H' ∧ H' wA = some (.dK (kvF ns wf)) ∧ H' lA = some (.dK (kvF ns h')) ∧ H' cA = some (.dK (kvF ord f')) ∧ Plays ns (es.map (·.2)) pn f ms f' ∧ countF f (fun _ => 0) ms = (f', h') ∧ ∀ x ∈ ns, min 0 (wf x) ≤ h' x ∧ h' x ≤ max 0 (wf x)) ⟨ms, f', h', _, _, _, _, _, rfl, ga, hwA, hlA, hcA, pl, ce, bh⟩ ?_ ?_ ?_
        · rintro i σ H' hi ⟨_, _, _, _, _, _, _, _, _, ga, _⟩
          exact SqT.of (gs.go hp ga).gr.nodes
        · rintro i y σ H' hy ⟨ms, f', h', u8, u9, u11, u12, u13, rfl, ga, hwA, hlA, hcA, pl, ce, bh⟩
          obtain ⟨hi, rfl⟩ := map_at hy
          have xin := List.getElem_mem hi
          generalize ns[i] = x at xin
          obtain ⟨ok', _⟩ := plays_lift gs.eok gs.nd pl
          have gsC := (gs.go hp ga).cur hcA ok'
          have tri := ok'.tri x xin
          have bx := bh x xin
          wtm_at "rd"
          refine rd_dat (.inl hwA) (kvF_val xin) rfl ?_
          wtm_at "rd"
          refine rd_dat (.inl hlA) (kvF_val xin) rfl ?_
          wtm_at "rd"
          refine ⟨fun σ' H2 => ∃ v : Int, v = (if 0 < wf x - h' x then (f' x + 2) % 3 else (f' x + 1) % 3) ∧ σ' = [some (.ref p), some (.ref g), some (.ref st), some (.ref ps), some (.int size), some (.int mode), some (.ref wA), some (.ref lA), some (.str x), u9, some (.ref cA), u11, some (.int (wf x - h' x)), some (.int v)] ∧ H2 = H', ?_, ?_⟩
          · wtm_at "rd"
            refine rd_split (fun c1 => ?_) (fun c1 => ?_)
            · wtm_at "rd"
              refine rd_dat (.inl hcA) (kvF_val (gs.inO _ xin)) rfl ?_
              wtm_at "rd"
              exact ⟨_, by rw [if_pos c1], rfl, rfl⟩
            · wtm_at "rd"
              refine rd_dat (.inl hcA) (kvF_val (gs.inO _ xin)) rfl ?_
              wtm_at "rd"
              exact ⟨_, by rw [if_neg c1], rfl, rfl⟩
          rintro σ' _ ⟨v, hv, rfl, rfl⟩
          wtm_at "rd"
          refine rd_nsplit (fun c1 => ?_) (fun c1 => ?_)
          · wtm_at "rd"
            refine ⟨g, n, e, cA, ps, x, ns, ord, pn, es, f', rfl, gsC, SqT.of (ga.tup hp hps), xin, fun l H2 s2 fl hl => ?_⟩
            wtm_at "rd"
            refine rd_inIL (SqL.of hl) ?_
            wtm_at "rd"
            have ga2 := ga.same s2
            have hwA := s2 _ _ hwA
            have hlA := s2 _ _ hlA
            have hcA := s2 _ _ hcA
            clear hl fl s2 gsC
            refine rd_split (fun c2 => ?_) (fun c2 => ?_)
            · have leg := poss_legal xin c2
              have upd2 : ∀ d : Int, dlt (f' x - v) = d → (∀ z ∈ ns, min 0 (wf z) ≤ updf h' x (h' x + d) z ∧ updf h' x (h' x + d) z ≤ max 0 (wf z)) → ∃ (ms : List (Str × Int)) (f2 h2 : Str → Int), f2 = updf f' x v ∧ h2 = updf h' x (h' x + d) ∧ Plays ns (es.map (·.2)) pn f ms f2 ∧ countF f (fun _ => 0) ms = (f2, h2) ∧ ∀ z ∈ ns, min 0 (wf z) ≤ h2 z ∧ h2 z ≤ max 0 (wf z) := by
                intro d hd hb
                refine ⟨ms ++ [(x, v)], _, _, rfl, rfl, .snoc pl leg, ?_, hb⟩
                rw [countF_snoc, ce, hd]
              have bd2 : ∀ d : Int, (min 0 (wf x) ≤ h' x + d ∧ h' x + d ≤ max 0 (wf x)) → ∀ z ∈ ns, min 0 (wf z) ≤ updf h' x (h' x + d) z ∧ updf h' x (h' x + d) z ≤ max 0 (wf z) := by
                intro d hd z hz
                unfold updf
                split
                · rename_i e
                  rw [e]
                  exact hd
                · exact bh z hz
              wtm_at "rd"
              refine rd_dset hcA (k := .inr x) rfl (by rw [List.length_map, gs.pm.length_eq]; omega) ?_
              rw [kvF_put (gs.inO _ xin)]
              have ga3 := ga2.put (o := .dK (kvF ord (updf f' x v))) fcA0 ncp
              have hwA := at_upd (o := .dK (kvF ord (updf f' x v))) nwc hwA
              have hlA := at_upd (o := .dK (kvF ord (updf f' x v))) nlc hlA
              have hcA := @upd_same H2 cA (.dK (kvF ord (updf f' x v)))
              generalize upd H2 cA (.dK (kvF ord (updf f' x v))) = H3 at ga3 hwA hlA hcA
              wtm_at "rd"
              refine rd_split (fun c3 => ?_) (fun c3 => ?_)
              · wtm_at "rd"
                refine rd_dat (.inl hlA) (kvF_val xin) rfl ?_
                wtm_at "rd"
                refine rd_dset hlA (k := .inr x) rfl (by rw [List.length_map]; omega) ?_
                rw [kvF_put xin]
                rw [if_pos c3] at hv
                obtain ⟨ms2, f2, h2, rfl, rfl, p2, c2, b2⟩ := upd2 1 (by unfold dlt; rw [if_neg (by omega), if_pos (by omega)]) (bd2 1 (by omega))
                exact ⟨ms2, _, _, _, _, _, _, _, rfl, ga3.put flA0 nlp, at_upd nwl hwA, upd_same, at_upd (Ne.symm nlc) hcA, p2, c2, b2⟩
              · wtm_at "rd"
                refine rd_dat (.inl hlA) (kvF_val xin) rfl ?_
                wtm_at "rd"
                refine rd_dset hlA (k := .inr x) rfl (by rw [List.length_map]; omega) ?_
                rw [kvF_put xin]
                rw [if_neg c3] at hv
                obtain ⟨ms2, f2, h2, rfl, rfl, p2, c2, b2⟩ := upd2 (-1) (by unfold dlt; rw [if_neg (by omega), if_neg (by omega)]) (bd2 (-1) (by omega))
                exact ⟨ms2, _, _, _, _, _, _, _, rfl, ga3.put flA0 nlp, at_upd nwl hwA, upd_same, at_upd (Ne.symm nlc) hcA, p2, c2, b2⟩
            · wtm_at "rd"
              exact ⟨ms, f', h', _, _, _, _, _, rfl, ga2, hwA, hlA, hcA, pl, ce, bh⟩
          · wtm_at "rd"
            exact ⟨ms, f', h', _, _, _, _, _, rfl, ga, hwA, hlA, hcA, pl, ce, bh⟩
        · rintro σ H' ⟨ms, f', h', u8, u9, u11, u12, u13, rfl, ga, hwA, hlA, hcA, pl, ce, bh⟩
          exact ⟨ms, f', h', _, _, _, _, _, rfl, ga, hwA, hlA, hcA, pl, ce, bh⟩
      · rintro σ H6 ⟨ms, f', h', u8, u9, u11, u12, u13, rfl, ga, hwA, hlA, hcA, pl, ce, bh⟩
        wtm_at "rd"
        refine q lA h' ms f' H6 ga flA0 hlA pl (by rw [ce]) fun x hx => ?_
        have a := bd x hx
        have b := bh x hx
        omega
end
end Law

/-! repr of [graph, state, lift, pins], the lift's numbers small -/
namespace U
open PySem PySem.Spec PyProof.Rows L2
end U

/-! repr of a list of dicts of larger numbers -/
namespace U
open PySem PySem.Spec PyProof.Rows L2
end U

/-! repr of a tuple of data and dicts of numbers; a tuple == () -/
namespace U
open PySem PySem.Spec PyProof.Rows L2
theorem rd_eqNilS {K : PySem.W.Frag} {H : Hp} {Q : VK} {p q : Addr} {xs : List Str} (hp : SqL K H p (xs.map V.str)) (hq : SqL K H q []) (ok : ∀ x ∈ xs, PyData.strOk x = true) (h : Q (.bl xs.isEmpty) H) : rEqU K (.ref p) (.ref q) H Q := by
  refine ⟨_, _, .lst hp (dp_strs _), .lst hq .nil, ?_, by decide, ?_⟩
  · unfold SeqAt.shaped
    rw [PyData.canLay0, can_strs ok, PyData.depth, dep_strs]
    rfl
  · have : PyData.eqv (.list (xs.map PyData.str)) (.list []) = xs.isEmpty := by
      cases xs with
      | nil => simp [PyData.eqv, PyData.eqvAll]
      | cons _ _ => simp [PyData.eqv, PyData.eqvAll]
    rw [this]
    exact h
end U

/-! a random round of moves -/
namespace Law
open PySem PySem.Spec PyProof.Rows L2 U LamX


section
variable {P : Program} {w : World} {K : PySem.W.Frag} {mg : Str → Option Value} {base : Heap}
end
end Law

/-! moves compared -/
namespace Law
open PySem PySem.Spec PyProof.Rows L2 U


section
variable {K : PySem.W.Frag} {H : Hp} {Q : VK} {p q : Addr} {σ : L2.St}
end
end Law

/-! data compared by <; kvG changed at a key; append to a long list -/
namespace U
open PySem PySem.Spec PyProof.Rows L2
theorem kvG_put {ns : List Str} {F : Str → V} {n : Str} {v : V} (h : n ∈ ns) : putK (kvG ns F) (.inr n) v = kvG ns (updV F n v) := by
  unfold putK
  rw [if_pos]
  · rw [kvG, kvG, List.map_map]
    refine List.map_congr_left fun m _ => ?_
    show (if (Sum.inr m : Key) = Sum.inr n then ((Sum.inr m : Key), v) else (Sum.inr m, F m)) = (Sum.inr m, updV F n v m)
    unfold updV
    by_cases e : m = n
    · rw [if_pos (by rw [e]), if_pos e]
    · rw [if_neg (fun z => e (Sum.inr.inj z)), if_neg e]
  · rw [valV_any, kvG_val h]
    rfl
end U

/-! a Team's methods, nothing raised (k85) -/
namespace Law
open PySem PySem.Spec PyProof.Rows L2 U LamX


local macro_rules | `(tactic| wtm_at "rd1") => `(tactic| first | with_reducible refine rd_fld ?_ | with_reducible refine rd_mG ?_ | with_reducible refine rd_sFld ?_ | with_reducible refine rd_sAug ?_ | with_reducible refine rd_gFld ?_)
theorem rd_dget1 {td ty : TE} {σ : L2.St} {H : Hp} {Q : VK} (h : td σ H fun x H1 => ∃ a, x = .ref a ∧ IsD H1 a ∧ ty σ H1 fun y H2 => ∃ o, DGet H2 a y o ∧ Q (o.getD .non) H2) : tDGet1 td ty σ H Q := h
theorem free_same {H H' : Hp} {a : Addr} (s : Same H H') (n : H' a = none) : H a = none := new_of_same s n
theorem rd_inCh {c : Nat} {z : Str} {H : Hp} {Q : VK} (h : Q (.bl (decide (c ∈ z.cps.toList))) H) : rInS (.str ⟨#[c]⟩) (.str z) H Q := ⟨c, z, rfl, rfl, h⟩
/-- a team stands -/
structure TmAt (C : Addr) (H : Hp) (m : Tm) : Prop where
  ins : H m.t = some (.ins C m.dx m.fs)
  cu : H m.cu = some (.dK (kvF m.ord m.f))
  re : H m.re = some (.dK (kvF m.lo m.h))
  kw : H m.kw = some (.lst (m.kws.map V.str))
  ow : H m.ow = some (.dK (kvG m.oks fun x => .str (m.own x)))
  en : H m.en = some (.lst m.ens)
  n1 : m.kw ≠ m.en
  n2 : m.ow ≠ m.cu
  n3 : m.ow ≠ m.re
theorem TmAt.same {C : Addr} {H H' : Hp} {m : Tm} (a : TmAt C H m) (s : Same H H') : TmAt C H' m := ⟨s _ _ a.ins, s _ _ a.cu, s _ _ a.re, s _ _ a.kw, s _ _ a.ow, s _ _ a.en, a.n1, a.n2, a.n3⟩
/-- what is no part of the team that is changed in place stays -/
def TmK (m : Tm) (H H' : Hp) : Prop := ∀ b o, b ≠ m.t → b ≠ m.kw → b ≠ m.ow → b ≠ m.en → H b = some o → H' b = some o
def spIsNd : Sp := fun vs H Q _ => ∃ s : Str, vs = [.str s] ∧ IsName s ∧ ∀ H' : Hp, Same H H' → Q (.bl true) H'
def spTmCw (C : Addr) : Sp := fun vs H Q _ => ∃ (m : Tm) (w : Str), vs = [.ref m.t, .str w] ∧ TmAt C H m ∧ w ∈ m.kws ∧ Q .non H
def spTmVf (K : PySem.W.Frag) (C : Addr) : Sp := fun vs H Q _ => ∃ (m : Tm) (w x : Str) (v : Int) (n e : Addr) (ns pn : List Str) (es : List (Addr × Str × Str)), vs = [.ref m.t, .str w, .str x] ∧ TmAt C H m ∧ w ∈ m.kws ∧ GSt H m.g n e m.cu ns m.ord es m.f ∧ m.lo = ns ∧ SqT K H m.ps (pn.map V.str) ∧ x ∈ m.oks ∧ m.own x = w ∧ (x, v) ∈ progF ns (es.map (·.2)) m.f m.h pn ∧
  ∀ H' : Hp, Same H H' → Q (.int v) H'
def spChkD : Sp := fun vs H Q _ => ∃ (l : Addr) (xs : List Str), vs = [.ref l] ∧ H l = some (.lst (xs.map V.str)) ∧ xs.Nodup ∧ xs.length ≤ 1000 ∧ ∀ H' : Hp, Same H H' → Q .non H'
def spTmAs (C : Addr) : Sp := fun vs H Q _ => ∃ (m : Tm) (w : Str) (nl n e : Addr) (ns xs : List Str) (es : List (Addr × Str × Str)), vs = [.ref m.t, .str w, .ref nl] ∧ TmAt C H m ∧ IsName w ∧ GrAt H m.g n e ns es ∧ ns.length ≤ 1000 ∧ H nl = some (.lst (xs.map V.str)) ∧ nl ≠ m.kw ∧ (∀ x ∈ xs, x ∈ ns) ∧ m.kws.length ≤ 1000 ∧ m.oks.Nodup ∧ (∀ x ∈ m.oks, x ∈ ns) ∧
  ∀ (oks' : List Str) (H' : Hp), TmK m H H' → TmAt C H' { m with kws := (if w ∈ m.kws then m.kws else m.kws ++ [w]), oks := oks', own := fun y => if y ∈ xs then w else m.own y } → oks'.Nodup → (∀ y, y ∈ oks' ↔ y ∈ m.oks ∨ y ∈ xs) → Q .non H'
theorem rd_eqNS {K : PySem.W.Frag} {H : Hp} {Q : VK} {y : Str} (h : Q (.bl false) H) : rEqU K .non (.str y) H Q := h
/-- an owner told -/
theorem own_put {ks : List Str} {own : Str → Str} {x w : Str} (nd : ks.Nodup) : ∃ ks', putK (kvG ks fun y => .str (own y)) (.inr x) (.str w) = kvG ks' (fun y => .str (if y = x then w else own y)) ∧ ks'.Nodup ∧ (∀ y, y ∈ ks' ↔ y ∈ ks ∨ y = x) ∧ ks'.length ≤ ks.length + 1 := by
  by_cases h : x ∈ ks
  · refine ⟨ks, ?_, nd, fun y => ⟨.inl, fun z => z.elim id fun z => by rw [z]; exact h⟩, Nat.le_succ _⟩
    rw [kvG_put h]
    refine kvG_congr fun y _ => ?_
    unfold updV
    split <;> rfl
  · refine ⟨ks ++ [x], ?_, ?_, fun y => by rw [List.mem_append, List.mem_singleton], by rw [List.length_append]; exact Nat.le_refl _⟩
    · rw [kvG_new h]
      refine kvG_congr fun y _ => ?_
      unfold updV
      split <;> rfl
    · exact List.nodup_append.mpr ⟨nd, List.pairwise_singleton _ _, fun a ha b hb e => h (by rw [List.mem_singleton] at hb; rw [← hb, ← e]; exact ha)⟩
theorem prog_uniq {ns : List Str} {es : List (Str × Str)} {f h : Str → Int} {pn : List Str} (ok : EsOk ns es f) (nd : ns.Nodup) {x : Str} {v w : Int} (a : (x, v) ∈ progF ns es f h pn) (b : (x, w) ∈ progF ns es f h pn) : v = w := by
  rw [prog_eq ok fun y hy => hy] at a b
  have nd := (pm_nodup (es := es) (f := f) (h := h) (pn := pn) nd).1
  obtain ⟨i, hi, ei⟩ := List.mem_iff_getElem.mp a
  obtain ⟨j, hj, ej⟩ := List.mem_iff_getElem.mp b
  have z := List.pairwise_iff_getElem.mp (List.nodup_iff_pairwise_ne.mp nd)
  by_cases e : i = j
  · subst e
    rw [ei] at ej
    exact (Prod.mk.inj ej).2
  · rcases Nat.lt_or_gt_of_ne e with l | l
    · exact absurd (by rw [List.getElem_map, List.getElem_map, ei, ej]) (z i j (by rw [List.length_map]; exact hi) (by rw [List.length_map]; exact hj) l)
    · exact absurd (by rw [List.getElem_map, List.getElem_map, ei, ej]) (z j i (by rw [List.length_map]; exact hj) (by rw [List.length_map]; exact hi) l)
/-- the moves of pairs -/
def mvsP (pl : List (Addr × Str × Str)) (vl : List Int) : List (Str × Int) := (pl.zip vl).map fun q => (q.1.2.2, q.2)
theorem mvsP_take {pl : List (Addr × Str × Str)} {vl : List Int} {i : Nat} (h : i < pl.length) (h2 : i < vl.length) : mvsP (pl.take (i + 1)) (vl.take (i + 1)) = mvsP (pl.take i) (vl.take i) ++ [(pl[i].2.2, vl[i])] := by
  unfold mvsP
  rw [take_snoc h, take_snoc h2, List.zip_append (by rw [List.length_take, List.length_take]; omega), List.map_append]
  rfl
/-- the rows of the history -/
def RowsAt (H : Hp) (r : Int) (pl : List (Addr × Str × Str)) (vl : List Int) (nw : List Addr) : Prop := Paired (fun a (q : (Addr × Str × Str) × Int) => H a = some (.tup [.int r, .str q.1.2.1, .str q.1.2.2, .int q.2])) nw (pl.zip vl)
def spTmPr (C : Addr) : Sp := fun vs H Q _ => ∃ (m : Tm) (pr va : Addr) (pl : List (Addr × Str × Str)) (vl : List Int), vs = [.ref m.t, .ref pr, .ref va] ∧ TmAt C H m ∧ H pr = some (.lst (pl.map fun x => V.ref x.1)) ∧ (∀ x ∈ pl, H x.1 = some (.tup [.str x.2.1, .str x.2.2])) ∧ H va = some (.lst (vl.map V.int)) ∧ pl.length = vl.length ∧ pl.length ≤ 1000 ∧ (∀ x ∈ pl, x.2.2 ∈ m.ord ∧ x.2.2 ∈ m.lo) ∧ m.ord.length ≤ 1000 ∧ m.lo.length ≤ 1000 ∧ m.ens.length ≤ 50000 ∧
  ∀ (cu' re' : Addr) (nw : List Addr) (H' : Hp), (∀ b o, b ≠ m.t → b ≠ m.en → H b = some o → H' b = some o) → H cu' = none → H re' = none → RowsAt H' (m.r + 1) pl vl nw → TmAt C H' { m with cu := cu', re := re', r := m.r + 1, ens := m.ens ++ nw.map V.ref, f := plU m.f (mvsP pl vl), h := rdU m.h (mvsP pl vl) } → Q .non H'
def spTmMt (K : PySem.W.Frag) (C : Addr) : Sp := fun vs H Q _ => ∃ (m : Tm) (pr n e : Addr) (pl : List (Addr × Str × Str)) (vl : List Int) (ns pn : List Str) (es : List (Addr × Str × Str)), vs = [.ref m.t, .ref pr] ∧ TmAt C H m ∧ GSt H m.g n e m.cu ns m.ord es m.f ∧ m.lo = ns ∧ SqT K H m.ps (pn.map V.str) ∧ H pr = some (.lst (pl.map fun x => V.ref x.1)) ∧ (∀ x ∈ pl, H x.1 = some (.tup [.str x.2.1, .str x.2.2])) ∧ pl.length = vl.length ∧ pl.length ≤ 1000 ∧ m.ens.length ≤ 50000 ∧ (pl.map (·.2.2)).Nodup ∧
  (∀ i (h : i < pl.length) (h2 : i < vl.length), pl[i].2.1 ∈ m.kws ∧ PyData.strOk pl[i].2.1 = true ∧ pl[i].2.2 ∈ m.oks ∧ m.own pl[i].2.2 = pl[i].2.1 ∧ (pl[i].2.2, vl[i]) ∈ progF ns (es.map (·.2)) m.f m.h pn) ∧
  ∀ (va : Addr) (m' : Tm) (H' : Hp), (∀ b o, b ≠ m.t → b ≠ m.en → H b = some o → H' b = some o) → TmAt C H' m' → H va = none → H' va = some (.lst (vl.map V.int)) →
    ((pl = [] ∧ m' = m) ∨ (pl ≠ [] ∧ ∃ (cu' re' : Addr) (nw : List Addr), H cu' = none ∧ H re' = none ∧ RowsAt H' (m.r + 1) pl vl nw ∧ m' = { m with cu := cu', re := re', r := m.r + 1, ens := m.ens ++ nw.map V.ref, f := plU m.f (mvsP pl vl), h := rdU m.h (mvsP pl vl) })) → Q (.ref va) H'
def spTmMv (K : PySem.W.Frag) (C : Addr) : Sp := fun vs H Q _ => ∃ (m : Tm) (w x : Str) (v : Int) (n e : Addr) (ns pn : List Str) (es : List (Addr × Str × Str)), vs = [.ref m.t, .str w, .str x] ∧ TmAt C H m ∧ w ∈ m.kws ∧ PyData.strOk w = true ∧ GSt H m.g n e m.cu ns m.ord es m.f ∧ m.lo = ns ∧ SqT K H m.ps (pn.map V.str) ∧ x ∈ m.oks ∧ m.own x = w ∧ (x, v) ∈ progF ns (es.map (·.2)) m.f m.h pn ∧ m.ens.length ≤ 50000 ∧
  ∀ (cu' re' a : Addr) (H' : Hp), (∀ b o, b ≠ m.t → b ≠ m.en → H b = some o → H' b = some o) → H cu' = none → H re' = none → H' a = some (.tup [.int (m.r + 1), .str w, .str x, .int v]) → TmAt C H' { m with cu := cu', re := re', r := m.r + 1, ens := m.ens ++ [.ref a], f := plU m.f [(x, v)], h := rdU m.h [(x, v)] } → Q (.int v) H'
theorem tm_made {g cu re ps kw ow en t dx : Addr} {kws oks : List Str} {own : Str → Str} {ens : List V} {ord lo : List Str} {f h : Str → Int} : (putF "rounds_done" (V.int 0) (putF "entries" (.ref en) (putF "owners" (.ref ow) (putF "known_workers" (.ref kw) (putF "own_pins" (.ref ps) (putF "rest" (.ref re) (putF "current" (.ref cu) (putF "own_graph" (.ref g) ([] : List (Str × V)))))))))) = ({ t := t, dx := dx, g := g, cu := cu, re := re, ps := ps, kw := kw, ow := ow, en := en, kws := kws, oks := oks, own := own, ens := ens, r := 0, ord := ord, lo := lo, f := f, h := h } : Tm).fs := by
  have e1 : putF "own_graph" (V.ref g) ([] : List (Str × V)) = ([("own_graph", V.ref g)] : List (Str × V)) := rfl
  have e2 : putF "current" (V.ref cu) ([("own_graph", V.ref g)] : List (Str × V)) = ([("own_graph", V.ref g), ("current", V.ref cu)] : List (Str × V)) := putN (by decide +kernel)
  have e3 : putF "rest" (V.ref re) ([("own_graph", V.ref g), ("current", V.ref cu)] : List (Str × V)) = ([("own_graph", V.ref g), ("current", V.ref cu), ("rest", V.ref re)] : List (Str × V)) := (putN (by decide +kernel)).trans (congrArg _ (putN (by decide +kernel)))
  have e4 : putF "own_pins" (V.ref ps) ([("own_graph", V.ref g), ("current", V.ref cu), ("rest", V.ref re)] : List (Str × V)) = ([("own_graph", V.ref g), ("current", V.ref cu), ("rest", V.ref re), ("own_pins", V.ref ps)] : List (Str × V)) := (putN (by decide +kernel)).trans (congrArg _ ((putN (by decide +kernel)).trans (congrArg _ (putN (by decide +kernel)))))
  have e5 : putF "known_workers" (V.ref kw) ([("own_graph", V.ref g), ("current", V.ref cu), ("rest", V.ref re), ("own_pins", V.ref ps)] : List (Str × V)) = ([("own_graph", V.ref g), ("current", V.ref cu), ("rest", V.ref re), ("own_pins", V.ref ps), ("known_workers", V.ref kw)] : List (Str × V)) := (putN (by decide +kernel)).trans (congrArg _ ((putN (by decide +kernel)).trans (congrArg _ ((putN (by decide +kernel)).trans (congrArg _ (putN (by decide +kernel)))))))
  have e6 : putF "owners" (V.ref ow) ([("own_graph", V.ref g), ("current", V.ref cu), ("rest", V.ref re), ("own_pins", V.ref ps), ("known_workers", V.ref kw)] : List (Str × V)) = ([("own_graph", V.ref g), ("current", V.ref cu), ("rest", V.ref re), ("own_pins", V.ref ps), ("known_workers", V.ref kw), ("owners", V.ref ow)] : List (Str × V)) := (putN (by decide +kernel)).trans (congrArg _ ((putN (by decide +kernel)).trans (congrArg _ ((putN (by decide +kernel)).trans (congrArg _ ((putN (by decide +kernel)).trans (congrArg _ (putN (by decide +kernel)))))))))
  have e7 : putF "entries" (V.ref en) ([("own_graph", V.ref g), ("current", V.ref cu), ("rest", V.ref re), ("own_pins", V.ref ps), ("known_workers", V.ref kw), ("owners", V.ref ow)] : List (Str × V)) = ([("own_graph", V.ref g), ("current", V.ref cu), ("rest", V.ref re), ("own_pins", V.ref ps), ("known_workers", V.ref kw), ("owners", V.ref ow), ("entries", V.ref en)] : List (Str × V)) := (putN (by decide +kernel)).trans (congrArg _ ((putN (by decide +kernel)).trans (congrArg _ ((putN (by decide +kernel)).trans (congrArg _ ((putN (by decide +kernel)).trans (congrArg _ ((putN (by decide +kernel)).trans (congrArg _ (putN (by decide +kernel)))))))))))
  have e8 : putF "rounds_done" (V.int 0) ([("own_graph", V.ref g), ("current", V.ref cu), ("rest", V.ref re), ("own_pins", V.ref ps), ("known_workers", V.ref kw), ("owners", V.ref ow), ("entries", V.ref en)] : List (Str × V)) = ([("own_graph", V.ref g), ("current", V.ref cu), ("rest", V.ref re), ("own_pins", V.ref ps), ("known_workers", V.ref kw), ("owners", V.ref ow), ("entries", V.ref en), ("rounds_done", V.int 0)] : List (Str × V)) := (putN (by decide +kernel)).trans (congrArg _ ((putN (by decide +kernel)).trans (congrArg _ ((putN (by decide +kernel)).trans (congrArg _ ((putN (by decide +kernel)).trans (congrArg _ ((putN (by decide +kernel)).trans (congrArg _ ((putN (by decide +kernel)).trans (congrArg _ (putN (by decide +kernel)))))))))))))
  rw [e1, e2, e3, e4, e5, e6, e7, e8]
  rfl
/-- at no place that was tracked, but for tables -/
def NewN (H : Hp) (b : Addr) : Prop := ∀ c o, H c = some o → (∀ ps, o ≠ .tbl ps) → c ≠ b
def spTmInit (K : PySem.W.Frag) (T : List (Addr × Str)) (C : Addr) : Sp := fun vs H Q _ => ∃ (t dx g n e st lf ps : Addr) (ns ord pn : List Str) (es : List (Addr × Str × Str)) (f h : Str → Int), vs = [.ref t, .ref g, .ref st, .ref lf, .ref ps] ∧ H t = some (.ins C dx []) ∧ GSt H g n e st ns ord es f ∧ H lf = some (.dK (kvF ns h)) ∧ SqT K H ps (pn.map V.str) ∧ Tabs T H ∧ Feas ns (es.map (·.2)) f h pn ∧
  ∀ (m : Tm) (H' : Hp), (∀ b o, b ≠ t → H b = some o → (∀ ps, o ≠ .tbl ps) → H' b = some o) → Tabs T H' → TmAt C H' m → m.t = t → m.g = g → m.ps = ps → m.kws = [] → m.oks = [] → m.ens = [] → m.r = 0 → m.ord = ord → m.lo = ns → m.f = f → m.h = h → NewN H m.cu → NewN H m.re → NewN H m.kw → NewN H m.ow → NewN H m.en → Q .non H'
section
variable {P : Program} {w : World} {K : PySem.W.Frag} {mg : Str → Option Value} {base : Heap}
theorem ok_isNd {f : Addr} {fd : FuncData} (F : Fun K "is_node" "is_node" s_is_node f fd) (B : Bt mg) (cM : ∃ u, mg "MAX_NAME" = some u ∧ RelV (.int 8) u) (cL : ∃ u, mg "LETTERS" = some u ∧ RelV (.str "abcdefghijklmnopqrstuvwxyz") u) : FnG P w K mg base CX0 1 f fd ["candidate"] spIsNd := by
  refine fnG0 F sc_is_node (fun vs H Q E h => ?_) (fun cdv A outer s H vs Q E hr h => ?_)
  · obtain ⟨s, rfl, _⟩ := h
    rfl
  · obtain ⟨s, rfl, nm, q⟩ := h
    have nd := sc_is_node.nd
    have hu := hr.u1
    refine ⟨_, (pss_cons (ps_if (PW.pt (pw_or (pt_not (pt_val (pe_callB (kIsi K rfl) (by rfl) B.isinstance bb_isinstance (pa_cons (pv 0) (pa_cons (pe_ty rfl B.str bb_str) pa_nil))))) (pw_or1 (pt_not (pt_chain uLe uLe pe_int (pe_callB (kLen K rfl) (by rfl) B.len bb_len (pa_cons (pv 0) pa_nil)) (pe_gl rfl cM)))))) (pss_one (ps_ret pe_bl)) pss_nil)
  (pss_one (ps_ret (pe_callB (kAll K rfl rfl) (by rfl) B.all bb_all (pa_cons (pe_lc (own := [("letter", 1)]) rfl nd (pi_str (pv 0)) (blkOk_by (own := [("letter", 1)]) (N := nN_is_node) (sc := defScope s_is_node) (by decide +kernel)) (fun _ _ _ _ _ => (pg_name (i := 1) nd rfl (by first | exact Or.inl rfl | exact Or.inr rfl))) (fun _ _ _ _ _ => pts_nil) (fun _ _ _ _ _ => (pe_cmpR op_inS (pv 1) (pe_gl rfl cL) rfl))) pa_nil))))), ?_⟩
    have lo := nm.lo
    have hi := nm.hi
    wtm_at "rd"
    refine rd_isi ty_str rfl ?_
    rw [show isT Ty.str Ty.str = true from rfl]
    wtm_at "rd"
    refine rd_lenS (by omega) ?_
    wtm_at "rd"
    refine rd_yes (by omega) ?_
    wtm_at "rd"
    refine rd_nno (by omega) ?_
    wtm_at "rd"
    refine ⟨_, rfl, s, rfl, ?_⟩
    intro D fD
    have len8 : s.cps.size ≤ 8 := hi
    refine lc_it walk_str (fun i H2 => Same H H2 ∧ H2 D = some (.lst ((List.replicate i true).map V.bl))) ⟨Same.new fD, upd_same⟩ (fun _ _ _ _ => trivial) ?_ ?_
    · rintro i y H2 H3 hi ⟨s', hD⟩ ⟨rfl, c, hc, rfl⟩
      have cin : c ∈ s.cps.toList := by
        rw [Array.mem_toList_iff]
        exact Array.mem_of_getElem? hc
      have ci := nm.ch c cin
      have cabc : c ∈ ("abcdefghijklmnopqrstuvwxyz" : Str).cps.toList := by
        have e : ("abcdefghijklmnopqrstuvwxyz" : Str).cps.toList = (List.range 26).map (· + 97) := by decide +kernel
        rw [e]
        exact List.mem_map.mpr ⟨c - 97, List.mem_range.mpr (by omega), by omega⟩
      show gName _ (V.str ⟨#[c]⟩) _ _ _
      wtm_at "rd"
      refine rd_inCh ?_
      rw [decide_eq_true cabc]
      refine ⟨_, hD, by rw [List.length_map, List.length_replicate]; have : i < s.cps.size := hi; show i < sizeLine; exact Nat.lt_of_lt_of_le (by omega : i < 8) (by decide), fun b o hb => ?_, ?_⟩
      · have nb : b ≠ D := fun z => by
          rw [z, fD] at hb
          exact nomatch hb
        rw [upd_ne nb]
        exact s' _ _ hb
      · rw [upd_same, List.replicate_succ', List.map_append]
        rfl
    · rintro H2 ⟨s', hD⟩
      wtm_at "rd"
      refine rd_allL (SqL.of hD) ?_
      wtm_at "rd"
      have e : ((List.replicate s.cps.size true).all id) = true := by
        rw [List.all_eq_true]
        intro b hb
        exact (List.eq_of_mem_replicate hb)
      rw [e]
      exact q H2 s'
theorem ok_tmCw {f Cl : Addr} {fd : FuncData} (F : Fun K "check_worker" "Team.check_worker" s_Team_check_worker f fd) (B : Bt mg) (T : TmC K Cl) : FnG P w K mg base CX0 1 f fd ["self", "worker"] (spTmCw Cl) := by
  refine fnG0 F sc_Team_check_worker (fun vs H Q E h => ?_) (fun cdv A outer s H vs Q E hr h => ?_)
  · obtain ⟨m, w, rfl, _⟩ := h
    rfl
  · obtain ⟨m, w, rfl, a, wk, q⟩ := h
    have nd := sc_Team_check_worker.nd
    have hu := hr.u1
    refine ⟨_, (pss_one (ps_if (pt_cmpR (kNotIn K rfl) (pv 1) (kFld K rfl (pv 0) rfl) rfl) (pss_one ps_dead) pss_nil)), ?_⟩
    wtm_at "rd"
    refine m.get_known_workers T a.ins ?_
    refine rd_ninSL (SqL.of a.kw) ?_
    wtm_at "rd"
    refine rd_nno wk ?_
    wtm_at "rd"
    exact q
theorem ok_tmDist {f : Addr} {fd : FuncData} (F : Fun K "check_distinct" "check_distinct" s_check_distinct f fd) (B : Bt mg) : FnG P w K mg base CX0 1 f fd ["nodes"] spChkD := by
  refine fnG0 F sc_check_distinct (fun vs H Q E h => ?_) (fun cdv A outer s H vs Q E hr h => ?_)
  · obtain ⟨l, xs, rfl, _⟩ := h
    rfl
  · obtain ⟨l, xs, rfl, hl, nx, xl, q⟩ := h
    have nd := sc_check_distinct.nd
    have hu := hr.u1
    refine ⟨_, (pss_one (ps_for PassesOwn.never rfl (pi_enum (by rfl) B.enumerate (pa_cons (pv 0) pa_nil)) (kg_tup (n := 2) K rfl rfl (pgs_cons (pg_name (i := 1) nd rfl (by first | exact Or.inl rfl | exact Or.inr rfl)) (pgs_cons (pg_name (i := 2) nd rfl (by first | exact Or.inl rfl | exact Or.inr rfl)) pgs_nil))) (pss_one (ps_if (pt_cmpR (kIn K rfl) (pv 2) (pe_slice (kSl K rfl) (pv 0) po_none (po_some (pv 1))) rfl) (pss_one ps_dead) pss_nil)))), ?_⟩
    wtm_at "rd"
    refine rd_forE (SqL.of hl) ?_
    refine turnsW (walk_enum (K := K) (a := l) (xs := xs.map V.str)) (fun i σ H' => (∃ u1 u2 : Option V, σ = [some (.ref l), u1, u2]) ∧ Same H H') ⟨⟨_, _, rfl⟩, fun _ _ h => h⟩ ?_ ?_ ?_
    · rintro i σ H' hi ⟨_, s⟩
      exact SqL.of (s _ _ hl)
    · rintro i y σ H3 H4 hi ⟨⟨u1, u2, rfl⟩, s⟩ ⟨T, x1, y1, rfl, fT, rfl, e1, e2⟩
      have hx := Option.some.inj e1
      subst hx
      obtain ⟨hin, rfl⟩ := map_at e2
      have sT := same_add (o := .tup [.int (i : Nat), .str xs[i]]) s fT
      refine rd_unp (SqT.of upd_same) rfl ?_
      generalize upd H3 T (.tup [.int (i : Nat), .str xs[i]]) = H5 at sT
      wtm_at "rd"
      refine rd_slL (SqL.of (sT _ _ hl)) ?_
      rw [cutV_to (by rw [List.length_map]; omega), ← List.map_take]
      intro z fz
      have kz := Same.new (o := .lst ((xs.take i).map V.str)) fz
      refine rd_inSL (SqL.of upd_same) ?_
      wtm_at "rd"
      refine rd_no (not_take nx hin) ?_
      wtm_at "rd"
      exact ⟨⟨_, _, rfl⟩, sT.trans kz⟩
    · rintro σ H' ⟨⟨u1, u2, rfl⟩, s⟩
      wtm_at "rd"
      exact q H' s
structure TMb (P : Program) (w : World) (K : PySem.W.Frag) (mg : Str → Option Value) (base : Heap) (C : Addr) : Prop where
  cw : CalM P w K mg base CX0 1 C "check_worker" (spTmCw C)
  has_node : Cal P w K mg base CX0 1 "has_node" (spHasV K)
  progress_moves : CalK P w K mg base CX0 4 "progress_moves" 3 ["pinned"] (spProg K)
theorem ok_tmVf {f Cl : Addr} {fd : FuncData} (F : Fun K "value_for" "Team.value_for" s_Team_value_for f fd) (B : Bt mg) (T : TmC K Cl) (D : TMb P w K mg base Cl) : FnG P w K mg base CX0 5 f fd ["self", "worker", "node"] (spTmVf K Cl) := by
  have C := D
  refine fnG0 F sc_Team_value_for (fun vs H Q E h => ?_) (fun cdv A outer s H vs Q E hr h => ?_)
  · obtain ⟨m, w, x, v, n, e, ns, pn, es, rfl, _⟩ := h
    rfl
  · obtain ⟨m, w, x, v, n, e, ns, pn, es, rfl, a, wk, gs, lo, hps, xo, ow, xv, q⟩ := h
    have nd := sc_Team_value_for.nd
    have hu := hr.u1
    refine ⟨_, (pss_cons (ps_expr (pe_mG C.cw T.cl hr (by decide) pass0 (pv 0) (pa_cons (pv 1) pa_nil)))
  (pss_cons (ps_if (PW.pt (pw_or (pt_not (pt_val (pe_c C.has_node hr (by decide) rfl (pa_cons (kFld K rfl (pv 0) rfl) (pa_cons (pv 2) pa_nil))))) (pw_or1 (pt_cmpR (kNe K rfl hr.u64) (pe_dget1 hu (kFld K rfl (pv 0) rfl) (pv 2) ⟨rfl, rfl, rfl, rfl⟩) (pv 1) (nomark _))))) (pss_one ps_dead) pss_nil)
  (pss_cons (ps_for PassesOwn.never rfl (ki_list K rfl (pe_cK C.progress_moves hr (by decide) rfl pass0 (pa_cons (kFld K rfl (pv 0) rfl) (pa_cons (kFld K rfl (pv 0) rfl) (pa_cons (kFld K rfl (pv 0) rfl) pa_nil))) (pk_cons (kFld K rfl (pv 0) rfl) pk_nil))) (kg_tup (n := 2) K rfl rfl (pgs_cons (pg_name (i := 3) nd rfl (by first | exact Or.inl rfl | exact Or.inr rfl)) (pgs_cons (pg_name (i := 4) nd rfl (by first | exact Or.inl rfl | exact Or.inr rfl)) pgs_nil))) (pss_one (ps_if (pt_cmpR (kEq K rfl hr.u64) (pv 3) (pv 2) (nomark _)) (pss_one (ps_ret (pv 4))) pss_nil)))
  (pss_one ps_dead)))), ?_⟩
    have l2 := gs.l2
    subst lo
    have xin : x ∈ m.lo := (prog_legal xv).1.mem
    wtm_at "rd"
    refine m.call_check_worker a.ins ?_
    wtm_at "rd"
    refine ⟨m, w, rfl, a, wk, ?_⟩
    wtm_at "rd"
    refine m.get_own_graph T a.ins ?_
    wtm_at "rd"
    refine ⟨m.g, n, e, .str x, .str, m.lo, es, rfl, gs.gr, .inr ⟨x, rfl, ?_⟩⟩
    wtm_at "rd"
    refine rd_nno xin ?_
    wtm_at "rd"
    refine rd_dget1 ?_
    wtm_at "rd"
    refine m.get_owners T a.ins ?_
    refine ⟨_, rfl, .inl ⟨_, .inl a.ow⟩, ?_⟩
    wtm_at "rd"
    refine ⟨_, .inl ⟨_, .inr x, .inl a.ow, rfl, rfl⟩, ?_⟩
    rw [kvG_val xo]
    simp only [Option.getD_some]
    wtm_at "rd"
    refine rd_nno ow ?_
    wtm_at "rd"
    refine m.get_own_graph T a.ins ?_
    wtm_at "rd"
    refine m.get_current T a.ins ?_
    wtm_at "rd"
    refine m.get_rest T a.ins ?_
    wtm_at "rd"
    refine m.get_own_pins T a.ins ?_
    wtm_at "rd"
    refine ⟨m.g, n, e, m.cu, m.re, m.ps, m.lo, m.ord, pn, es, m.f, m.h, rfl, gs, a.re, hps, fun l ms H1 s1 fl hl tm em => ?_⟩
    rw [← em] at xv
    refine rd_forL (SqL.of hl) ?_
    refine turnsL (K := K) (xs := ms.map fun y => V.ref y.1) (fun i σ H' => (∃ u3 u4 : Option V, σ = [some (.ref m.t), some (.str w), some (.str x), u3, u4]) ∧ Same H1 H' ∧ ∀ y ∈ ms.take i, y.2.1 ≠ x) ⟨⟨_, _, rfl⟩, fun _ _ h => h, fun y hy => by rw [List.take_zero] at hy; cases hy⟩ ?_ ?_ ?_
    · rintro i σ H' hi ⟨_, s, _⟩
      exact SqL.of (s _ _ hl)
    · rintro i y σ H' hy ⟨⟨u3, u4, rfl⟩, s, no⟩
      obtain ⟨hi, rfl⟩ := map_at hy
      have ym := List.getElem_mem hi
      have ht := s _ _ (tm _ ym)
      have tk := take_snoc hi
      generalize ms[i] = y at *
      refine rd_unp (SqT.of ht) rfl ?_
      wtm_at "rd"
      refine rd_split (fun c => ?_) (fun c => ?_)
      · wtm_at "rd"
        have c : y.2.1 = x := c
        have yv : (x, y.2.2) ∈ ms.map (·.2) := by
          rw [← c]
          exact List.mem_map_of_mem ym
        rw [em] at yv xv
        rw [prog_uniq gs.eok gs.nd yv xv]
        exact q H' (s1.trans s)
      · wtm_at "rd"
        refine ⟨⟨_, _, rfl⟩, s, fun z hz => ?_⟩
        rw [tk] at hz
        rcases List.mem_append.mp hz with hz | hz
        · exact no z hz
        · rw [List.mem_singleton.mp hz]
          exact c
    · rintro σ H' ⟨_, _, no⟩
      rw [List.length_map, List.take_length] at no
      obtain ⟨y, hy, e⟩ := List.mem_map.mp xv
      exact absurd (by rw [e]) (no y hy)
structure TMd (P : Program) (w : World) (K : PySem.W.Frag) (mg : Str → Option Value) (base : Heap) : Prop where
  check_node : Cal P w K mg base CX0 2 "check_node" (spChk0 K)
  is_node : Cal P w K mg base CX0 1 "is_node" spIsNd
theorem ok_tmAs {f Cl : Addr} {fd : FuncData} (F : Fun K "assign" "Team.assign" s_Team_assign f fd) (B : Bt mg) (T : TmC K Cl) (D : TMd P w K mg base) : FnG P w K mg base CX0 3 f fd ["self", "worker", "nodes"] (spTmAs Cl) := by
  have C := D
  refine fnG0 F sc_Team_assign (fun vs H Q E h => ?_) (fun cdv A outer s H vs Q E hr h => ?_)
  · obtain ⟨m, w, nl, n, e, ns, xs, es, rfl, _⟩ := h
    rfl
  · obtain ⟨m, w, nl, n, e, ns, xs, es, rfl, a, nm, gr, nsl, hnl, nlk, xin, kl, okd, oki, q⟩ := h
    have nd := sc_Team_assign.nd
    have hu := hr.u1
    refine ⟨_, (pss_cons (ps_if (pt_not (pt_val (pe_c C.is_node hr (by decide) rfl (pa_cons (pv 1) pa_nil)))) (pss_one ps_dead) pss_nil)
  (pss_cons (ps_for PassesOwn.never rfl (ki_list K rfl (pv 2)) (pg_name (i := 3) nd rfl (by first | exact Or.inl rfl | exact Or.inr rfl)) (pss_one (ps_expr (pe_c C.check_node hr (by decide) rfl (pa_cons (kFld K rfl (pv 0) rfl) (pa_cons (pv 3) pa_nil))))))
  (C8.pss_cut (ps_if (pt_cmpR (kNotIn K rfl) (pv 1) (kFld K rfl (pv 0) rfl) rfl) (pss_one (ps_expr (pe_bm PySem.F.plainAttrs_list PySem.F.slot_list_append PySem.F.type_list_append mt_append (kFld K rfl (pv 0) rfl) (pa_cons (pv 1) pa_nil)))) pss_nil)
  (pss_one (ps_for PassesOwn.never rfl (ki_list K rfl (pv 2)) (pg_name (i := 3) nd rfl (by first | exact Or.inl rfl | exact Or.inr rfl)) (pss_one (ps_dput hu (kFld K rfl (pv 0) rfl) (pv 3) (pv 1) rfl))))))), ?_⟩
    wtm_at "rd"
    refine ⟨w, rfl, nm, fun H1 s1 => ?_⟩
    have a1 := a.same s1
    have hnl1 := s1 _ _ hnl
    wtm_at "rd"
    refine rd_forL (SqL.of hnl1) ?_
    refine turnsL (K := K) (xs := xs.map V.str) (fun i σ H' => (∃ u3 : Option V, σ = [some (.ref m.t), some (.str w), some (.ref nl), u3]) ∧ H' = H1) ⟨⟨_, rfl⟩, rfl⟩ ?_ ?_ ?_
    · rintro i σ H' hi ⟨_, rfl⟩
      exact SqL.of hnl1
    · rintro i y σ H' hy ⟨⟨u3, rfl⟩, rfl⟩
      obtain ⟨hi, rfl⟩ := map_at hy
      wtm_at "rd"
      refine m.get_own_graph T a1.ins ?_
      wtm_at "rd"
      refine ⟨m.g, n, e, xs[i], ns, es, rfl, gr.same s1, xin _ (List.getElem_mem hi), ?_⟩
      wtm_at "rd"
      exact ⟨⟨_, rfl⟩, rfl⟩
    rintro σ H' ⟨⟨u3, rfl⟩, rfl⟩
    wtm_at "rd"
    have ow_len : ∀ ks : List Str, ks.Nodup → (∀ y ∈ ks, y ∈ ns) → ks.length ≤ 1000 := fun ks h1 h2 => Nat.le_trans (nodup_len h1 h2) nsl
    refine ⟨fun σ' HA => ∃ kws', kws' = (if w ∈ m.kws then m.kws else m.kws ++ [w]) ∧ σ' = [some (.ref m.t), some (.str w), some (.ref nl), u3] ∧ TmAt Cl HA { m with kws := kws' } ∧ HA nl = some (.lst (xs.map V.str)) ∧ (∀ b o, b ≠ m.kw → H' b = some o → HA b = some o), ?_, ?_⟩
    · wtm_at "rd"
      refine m.get_known_workers T a1.ins ?_
      refine rd_ninSL (SqL.of a1.kw) ?_
      wtm_at "rd"
      refine rd_nsplit (fun c => ?_) (fun c => ?_)
      · wtm_at "rd"
        refine m.get_known_workers T a1.ins ?_
        refine rd_tyL a1.kw ?_
        wtm_at "rd"
        refine rd_append a1.kw (by rw [List.length_map]; omega) ?_
        wtm_at "rd"
        have off : ∀ {b : Addr} {o : HO}, H' b = some o → (∀ ys, o ≠ .lst ys) → upd H' m.kw (.lst (m.kws.map V.str ++ [.str w])) b = some o := fun {b o} hb n => at_upd (ne_of hb a1.kw fun z => n _ z) hb
        refine ⟨m.kws ++ [w], by rw [if_neg c], rfl, ⟨off a1.ins nofun, off a1.cu nofun, off a1.re nofun, by rw [upd_same, List.map_append]; rfl, off a1.ow nofun, at_upd (Ne.symm a1.n1) a1.en, a1.n1, a1.n2, a1.n3⟩, at_upd nlk hnl1, fun b o nb hb => at_upd nb hb⟩
      · wtm_at "rd"
        exact ⟨m.kws, by rw [if_pos c], rfl, a1, hnl1, fun _ _ _ h => h⟩
    rintro σ' HA ⟨kws', ekw, rfl, aA, hnlA, kA⟩
    rw [← ekw] at q
    clear ekw
    wtm_at "rd"
    refine rd_forL (SqL.of hnlA) ?_
    refine turnsL (K := K) (xs := xs.map V.str) (fun i σ H2 => ∃ (u3 : Option V) (ks : List Str), σ = [some (.ref m.t), some (.str w), some (.ref nl), u3] ∧ (∀ b o, b ≠ m.ow → HA b = some o → H2 b = some o) ∧ H2 m.ow = some (.dK (kvG ks fun y => .str (if y ∈ xs.take i then w else m.own y))) ∧ ks.Nodup ∧ (∀ y, y ∈ ks ↔ y ∈ m.oks ∨ y ∈ xs.take i)) ⟨_, m.oks, rfl, fun _ _ _ h => h, by rw [aA.ow]; simp only [List.take_zero, List.not_mem_nil, if_false], okd, fun y => by simp only [List.take_zero, List.not_mem_nil, or_false]⟩ ?_ ?_ ?_
    · rintro i σ H2 hi ⟨_, _, rfl, k, _⟩
      exact SqL.of (k _ _ (ne_of hnlA aA.ow nofun) hnlA)
    · rintro i y σ H2 hy ⟨u3, ks, rfl, k, how, ksn, ksi⟩
      obtain ⟨hi, rfl⟩ := map_at hy
      have xm := xin _ (List.getElem_mem hi)
      have tk := take_snoc hi
      generalize xs[i] = x at *
      have kl := ow_len ks ksn fun y hy => ((ksi y).mp hy).elim (oki y) fun z => xin y (List.mem_of_mem_take z)
      obtain ⟨ks', e1, e2, e3, e4⟩ := own_put (own := fun y => if y ∈ xs.take i then w else m.own y) (x := x) (w := w) ksn
      wtm_at "rd"
      refine Tm.get_owners (m := { m with kws := kws' }) T (k _ _ (ne_of aA.ins aA.ow nofun) aA.ins) ?_
      wtm_at "rd"
      refine rd_dset how (k := .inr x) rfl (by rw [List.length_map]; omega) ?_
      rw [e1]
      refine ⟨_, ks', rfl, fun b o nb hb => at_upd nb (k b o nb hb), ?_, e2, fun y => ?_⟩
      · rw [upd_same, tk]
        refine congrArg some (congrArg HO.dK (kvG_congr fun y _ => ?_))
        by_cases c1 : y = x
        · rw [if_pos c1, if_pos (List.mem_append.mpr (.inr (List.mem_singleton.mpr c1)))]
        · by_cases c2 : y ∈ xs.take i
          · rw [if_neg c1, if_pos c2, if_pos (List.mem_append_left _ c2)]
          · rw [if_neg c1, if_neg c2, if_neg fun z => (List.mem_append.mp z).elim c2 fun z => c1 (List.mem_singleton.mp z)]
      · rw [e3, ksi, tk, List.mem_append, List.mem_singleton, or_assoc]
    · rintro σ H2 ⟨u3, ks, rfl, k, how, ksn, ksi⟩
      rw [List.length_map, List.take_length] at how ksi
      wtm_at "rd"
      refine q ks H2 (fun b o n1 n2 n3 n4 hb => k _ _ n3 (kA _ _ n2 (s1 _ _ hb))) ⟨k _ _ (ne_of aA.ins aA.ow nofun) aA.ins, k _ _ (Ne.symm a.n2) aA.cu, k _ _ (Ne.symm a.n3) aA.re, k _ _ (ne_of aA.kw aA.ow nofun) aA.kw, how, k _ _ (ne_of aA.en aA.ow nofun) aA.en, a.n1, a.n2, a.n3⟩ ksn ksi
structure TMe (P : Program) (w : World) (K : PySem.W.Frag) (mg : Str → Option Value) (base : Heap) : Prop where
  after_moves : Cal P w K mg base CX0 2 "after_moves" spAfter
theorem ok_tmPr {f Cl : Addr} {fd : FuncData} (F : Fun K "perform_round" "Team.perform_round" s_Team_perform_round f fd) (B : Bt mg) (T : TmC K Cl) (D : TMe P w K mg base) : FnG P w K mg base CX0 3 f fd ["self", "pairs", "values"] (spTmPr Cl) := by
  have C := D
  refine fnG0 F sc_Team_perform_round (fun vs H Q E h => ?_) (fun cdv A outer s H vs Q E hr h => ?_)
  · obtain ⟨m, pr, va, pl, vl, rfl, _⟩ := h
    rfl
  · obtain ⟨m, pr, va, pl, vl, rfl, a, hpr, tp, hva, lv, pll, pin, ol, ll, el, q⟩ := h
    have nd := sc_Team_perform_round.nd
    have hu := hr.u1
    refine ⟨_, (pss_cons (ps_setLc (i := 3) (own := [("pair", 4), ("value", 5)]) rfl nd rfl rfl (sw_true rfl rfl rfl (by decide +kernel)) (ki_zipL K rfl (by rfl) B.zip (pa_cons (pv 1) (pa_cons (pv 2) pa_nil))) (blkOk_by (own := [("pair", 4), ("value", 5)]) (N := nN_Team_perform_round) (sc := defScope s_Team_perform_round) (by decide +kernel)) (fun _ _ _ _ _ => (kg_tup (n := 2) K rfl rfl (pgs_cons (pg_name (i := 4) nd rfl (by first | exact Or.inl rfl | exact Or.inr rfl)) (pgs_cons (pg_name (i := 5) nd rfl (by first | exact Or.inl rfl | exact Or.inr rfl)) pgs_nil)))) (fun _ _ _ _ _ => pts_nil) (fun _ _ _ _ _ => (pe_tup (pa_cons (pe_ix (kIx K rfl) (pv 4) pe_int (fun _ _ => rfl)) (pa_cons (pv 5) pa_nil)))))
  (pss_cons (ps_asg (pe_c C.after_moves hr (by decide) rfl (pa_cons (kFld K rfl (pv 0) rfl) (pa_cons (kFld K rfl (pv 0) rfl) (pa_cons (pv 3) pa_nil)))) (kg_tup (n := 2) K rfl rfl (pgs_cons (pg_fld (pv 0)) (pgs_cons (pg_fld (pv 0)) pgs_nil))))
  (pss_cons (ps_fldaug (pv 0) pe_int in_add)
  (pss_one (ps_fldaug (pv 0) (pe_lc (own := [("pair", 4), ("value", 5)]) rfl nd (ki_zipL K rfl (by rfl) B.zip (pa_cons (pv 1) (pa_cons (pv 2) pa_nil))) (blkOk_by (own := [("pair", 4), ("value", 5)]) (N := nN_Team_perform_round) (sc := defScope s_Team_perform_round) (by decide +kernel)) (fun _ _ _ _ _ => (kg_tup (n := 2) K rfl rfl (pgs_cons (pg_name (i := 4) nd rfl (by first | exact Or.inl rfl | exact Or.inr rfl)) (pgs_cons (pg_name (i := 5) nd rfl (by first | exact Or.inl rfl | exact Or.inr rfl)) pgs_nil)))) (fun _ _ _ _ _ => pts_nil) (fun _ _ _ _ _ => (pe_tup (pa_cons (kFld K rfl (pv 0) rfl) (pa_cons (pe_ix (kIx K rfl) (pv 4) pe_int (fun _ _ => rfl)) (pa_cons (pe_ix (kIx K rfl) (pv 4) pe_int (fun _ _ => rfl)) (pa_cons (pv 5) pa_nil))))))) in_addL))))), ?_⟩
    wtm_at "rd"
    unfold iZipL
    wtm_at "rd"
    refine ⟨pr, va, _, _, rfl, SqL.of hpr, SqL.of hva, ?_⟩
    intro D fD
    refine lcW (walk_zipL (K := K) (a := pr) (b := va) (xs := pl.map fun c => V.ref c.1) (ys := vl.map V.int) (by rw [List.length_map, List.length_map]; exact lv)) (fun i H' => ∃ ms : List (Addr × Str × Int), Same H H' ∧ H' D = some (.lst (ms.map fun y => V.ref y.1)) ∧ TupsAt H' ms ∧ ms.map (·.2) = mvsP (pl.take i) (vl.take i) ∧ ms.length = i) ⟨[], Same.new fD, upd_same, TupsAt.nil, rfl, rfl⟩ ?_ ?_ ?_
    · rintro i H' hi ⟨_, s, _⟩
      exact ⟨SqL.of (s _ _ hpr), SqL.of (s _ _ hva)⟩
    · rintro i y H2 H3 hi ⟨ms, s, hD, tm, em, ml⟩ ⟨T1, x1, y1, rfl, fT, rfl, e1, e2⟩
      obtain ⟨hin, rfl⟩ := map_at e1
      obtain ⟨hin2, rfl⟩ := map_at e2
      have kT := Same.new (o := .tup [.ref pl[i].1, .int vl[i]]) fT
      have hT := @upd_same H2 T1 (.tup [.ref pl[i].1, .int vl[i]])
      have s := s.trans kT
      have hD := kT _ _ hD
      have tm := tm.same kT
      generalize upd H2 T1 (.tup [.ref pl[i].1, .int vl[i]]) = H3 at *
      refine rd_unp (SqT.of hT) rfl ?_
      wtm_at "rd"
      refine rd_ixT (SqT.of (s _ _ (tp _ (List.getElem_mem hin)))) (v := .str pl[i].2.2) rfl ?_
      wtm_at "rd"
      intro t ft
      have kt := Same.new (o := .tup [.str pl[i].2.2, .int vl[i]]) ft
      have ht := @upd_same H3 t (.tup [.str pl[i].2.2, .int vl[i]])
      have hD2 := kt _ _ hD
      have tm2 := tm.same kt
      have s := s.trans kt
      generalize upd H3 t (.tup [.str pl[i].2.2, .int vl[i]]) = H4 at *
      refine rd_acc hD2 (by rw [List.length_map, ml]; omega) ?_
      refine ⟨ms ++ [(t, pl[i].2.2, vl[i])], same_put s fD, by rw [upd_same, List.map_append]; rfl, (tm2.app (fun x hx => by rw [List.mem_singleton.mp hx]; exact ht)).put hD2, by rw [List.map_append, em, mvsP_take hin hin2]; rfl, by rw [List.length_append, ml]; rfl⟩
    rintro H1 ⟨ms, s1, hD, tm, em, ml⟩
    have e0 : mvsP (pl.take (pl.map fun c => V.ref c.1).length) (vl.take (pl.map fun c => V.ref c.1).length) = mvsP pl vl := by
      rw [List.length_map, List.take_length, lv, List.take_length]
    rw [e0] at em
    have a1 := a.same s1
    have hpr1 := s1 _ _ hpr
    have hva1 := s1 _ _ hva
    have tp1 := fun x hx => s1 _ _ (tp x hx)
    wtm_at "rd"
    refine m.get_current T a1.ins ?_
    wtm_at "rd"
    refine m.get_rest T a1.ins ?_
    wtm_at "rd"
    have msin : ∀ y ∈ ms, y.2.1 ∈ m.ord ∧ y.2.1 ∈ m.lo := fun y hy => by
      have y1 : y.2 ∈ mvsP pl vl := em ▸ List.mem_map_of_mem (f := fun x : Addr × Str × Int => x.2) hy
      obtain ⟨q1, hq, e⟩ := List.mem_map.mp y1
      have := pin _ (List.of_mem_zip (a := q1.1) (b := q1.2) hq).1
      rw [← e]
      exact this
    refine ⟨m.cu, m.re, D, m.ord, m.lo, m.f, m.h, ms, rfl, a1.cu, a1.re, hD, tm, msin, ol, ll, fun t ca cb H2 s2 fa fb ft ht hca hcb => ?_⟩
    have a2 := a1.same s2
    rw [em] at hca hcb
    have nca : ca ≠ m.ow := fun z => by rw [z, a1.ow] at fa; cases fa
    have ncb : cb ≠ m.ow := fun z => by rw [z, a1.ow] at fb; cases fb
    have hpr2 := s2 _ _ hpr1
    have hva2 := s2 _ _ hva1
    have tp2 := fun x hx => s2 _ _ (tp1 x hx)
    refine rd_unp (SqT.of ht) rfl ?_
    wtm_at "rd"
    refine m.set_current (R := fun H => gCons _ _ _ _ H _) T a2.ins ?_
    wtm_at "rd"
    refine Tm.set_rest (R := fun H => gNil _ _ H _) (m := { m with cu := ca }) T upd_same ?_
    show gNil _ _ (upd (upd H2 m.t _) m.t (HO.ins Cl m.dx ({ m with cu := ca, re := cb } : Tm).fs)) _
    rw [upd_upd]
    have off : ∀ {x : HO} {b : Addr} {o : HO}, H2 b = some o → (∀ Cx dx fs, o ≠ .ins Cx dx fs) → upd H2 m.t x b = some o := fun {x b o} hb n => at_upd (ne_of hb a2.ins fun z => n _ _ _ z) hb
    wtm_at "rd"
    refine ⟨m.t, Cl, m.dx, ({ m with cu := ca, re := cb } : Tm).fs, _, rfl, upd_same, T.cl, T.no_rounds_done, Tm.lk_rounds_done { m with cu := ca, re := cb }, ?_⟩
    wtm_at "rd"
    refine ⟨m.r, 1, rfl, rfl, m.dx, ({ m with cu := ca, re := cb } : Tm).fs, upd_same, (by show 8 < 1000; decide), ?_⟩
    rw [Tm.put_rounds_done { m with cu := ca, re := cb }, upd_upd]
    show (Ends.nx _) _ (upd H2 m.t (HO.ins Cl m.dx ({ m with cu := ca, re := cb, r := m.r + 1 } : Tm).fs))
    have i5 : upd H2 m.t (HO.ins Cl m.dx ({ m with cu := ca, re := cb, r := m.r + 1 } : Tm).fs) m.t = some (.ins Cl m.dx ({ m with cu := ca, re := cb, r := m.r + 1 } : Tm).fs) := upd_same
    have cu5 := off (x := HO.ins Cl m.dx ({ m with cu := ca, re := cb, r := m.r + 1 } : Tm).fs) hca nofun
    have re5 := off (x := HO.ins Cl m.dx ({ m with cu := ca, re := cb, r := m.r + 1 } : Tm).fs) hcb nofun
    have kw5 := off (x := HO.ins Cl m.dx ({ m with cu := ca, re := cb, r := m.r + 1 } : Tm).fs) a2.kw nofun
    have ow5 := off (x := HO.ins Cl m.dx ({ m with cu := ca, re := cb, r := m.r + 1 } : Tm).fs) a2.ow nofun
    have en5 := off (x := HO.ins Cl m.dx ({ m with cu := ca, re := cb, r := m.r + 1 } : Tm).fs) a2.en nofun
    have pr5 := off (x := HO.ins Cl m.dx ({ m with cu := ca, re := cb, r := m.r + 1 } : Tm).fs) hpr2 nofun
    have va5 := off (x := HO.ins Cl m.dx ({ m with cu := ca, re := cb, r := m.r + 1 } : Tm).fs) hva2 nofun
    have tp5 := fun x hx => off (x := HO.ins Cl m.dx ({ m with cu := ca, re := cb, r := m.r + 1 } : Tm).fs) (tp2 x hx) nofun
    have k5 : ∀ b o, b ≠ m.t → H b = some o → upd H2 m.t (HO.ins Cl m.dx ({ m with cu := ca, re := cb, r := m.r + 1 } : Tm).fs) b = some o := fun b o nb hb => at_upd nb (s2 _ _ (s1 _ _ hb))
    generalize upd H2 m.t (HO.ins Cl m.dx ({ m with cu := ca, re := cb, r := m.r + 1 } : Tm).fs) = H5 at i5 cu5 re5 kw5 ow5 en5 pr5 va5 tp5 k5 ⊢
    clear off hpr2 hva2 tp2 hca hcb ht hpr1 hva1 tp1 hD tm msin
    wtm_at "rd"
    refine ⟨m.t, Cl, m.dx, ({ m with cu := ca, re := cb, r := m.r + 1 } : Tm).fs, _, rfl, i5, T.cl, T.no_entries, Tm.lk_entries { m with cu := ca, re := cb, r := m.r + 1 }, ?_⟩
    wtm_at "rd"
    refine ⟨pr, va, _, _, rfl, SqL.of pr5, SqL.of va5, ?_⟩
    intro D2 fD2
    refine lcW (walk_zipL (K := K) (a := pr) (b := va) (xs := pl.map fun c => V.ref c.1) (ys := vl.map V.int) (by rw [List.length_map, List.length_map]; exact lv)) (fun i H' => ∃ nw : List Addr, Same H5 H' ∧ H' D2 = some (.lst (nw.map V.ref)) ∧ RowsAt H' (m.r + 1) (pl.take i) (vl.take i) nw ∧ nw.length = i) ⟨[], Same.new fD2, upd_same, .nil, rfl⟩ ?_ ?_ ?_
    · rintro i H' hi ⟨_, s, _⟩
      exact ⟨SqL.of (s _ _ pr5), SqL.of (s _ _ va5)⟩
    · rintro i y H6 H7 hi ⟨nw, s, hD, rw_, nl⟩ ⟨T1, x1, y1, rfl, fT, rfl, e1, e2⟩
      obtain ⟨hin, rfl⟩ := map_at e1
      obtain ⟨hin2, rfl⟩ := map_at e2
      have kT := Same.new (o := .tup [.ref pl[i].1, .int vl[i]]) fT
      have hT := @upd_same H6 T1 (.tup [.ref pl[i].1, .int vl[i]])
      have s := s.trans kT
      have hD := kT _ _ hD
      have rw_ : RowsAt _ (m.r + 1) (pl.take i) (vl.take i) nw := Paired.mapP rw_ fun a b z => kT _ _ z
      generalize upd H6 T1 (.tup [.ref pl[i].1, .int vl[i]]) = H7 at *
      refine rd_unp (SqT.of hT) rfl ?_
      have hp := s _ _ (tp5 _ (List.getElem_mem hin))
      wtm_at "rd"
      refine Tm.get_rounds_done (m := { m with cu := ca, re := cb, r := m.r + 1 }) T (s _ _ i5) ?_
      wtm_at "rd"
      refine rd_ixT (SqT.of hp) (v := .str pl[i].2.1) rfl ?_
      wtm_at "rd"
      refine rd_ixT (SqT.of hp) (v := .str pl[i].2.2) rfl ?_
      wtm_at "rd"
      intro t4 ft4
      have kt := Same.new (o := .tup [.int (m.r + 1), .str pl[i].2.1, .str pl[i].2.2, .int vl[i]]) ft4
      have ht4 := @upd_same H7 t4 (.tup [.int (m.r + 1), .str pl[i].2.1, .str pl[i].2.2, .int vl[i]])
      have hD8 := kt _ _ hD
      have s := s.trans kt
      have rw_ : RowsAt _ (m.r + 1) (pl.take i) (vl.take i) nw := Paired.mapP rw_ fun a b z => kt _ _ z
      generalize upd H7 t4 (.tup [.int (m.r + 1), .str pl[i].2.1, .str pl[i].2.2, .int vl[i]]) = H8 at *
      refine rd_acc hD8 (by rw [List.length_map, nl]; omega) ?_
      refine ⟨nw ++ [t4], same_put s fD2, by rw [upd_same, List.map_append]; rfl, ?_, by rw [List.length_append, nl]; rfl⟩
      unfold RowsAt
      rw [take_snoc hin, take_snoc hin2, List.zip_append (by rw [List.length_take, List.length_take]; omega)]
      exact Paired.snoc (Paired.mapP rw_ fun a b z => at_upd (ne_of z hD8 nofun) z) (at_upd (ne_of ht4 hD8 nofun) ht4)
    rintro H6 ⟨nw, s6, hD, rows, nl⟩
    have rows : RowsAt H6 (m.r + 1) pl vl nw := by
      rw [List.length_map, List.take_length, lv, List.take_length] at rows
      exact rows
    rw [List.length_map] at nl
    refine rd_ipL (s6 _ _ en5) hD (by rw [List.length_map]; omega) ?_
    have off6 : ∀ {b : Addr} {o : HO}, H6 b = some o → (∀ ys, o ≠ .lst ys) → upd H6 m.en (.lst (m.ens ++ nw.map V.ref)) b = some o := fun {b o} hb n => at_upd (ne_of hb (s6 _ _ en5) fun z => n _ z) hb
    refine ⟨m.dx, ({ m with cu := ca, re := cb, r := m.r + 1 } : Tm).fs, off6 (s6 _ _ i5) nofun, (by show 8 < 1000; decide), ?_⟩
    rw [Tm.put_entries { m with cu := ca, re := cb, r := m.r + 1 }]
    have fin : ∀ {b : Addr} {o : HO}, H6 b = some o → (∀ ys, o ≠ .lst ys) → (∀ Cx dx fs, o ≠ .ins Cx dx fs) → upd (upd H6 m.en (.lst (m.ens ++ nw.map V.ref))) m.t (HO.ins Cl m.dx ({ m with cu := ca, re := cb, r := m.r + 1 } : Tm).fs) b = some o := fun {b o} hb n1 n2 => at_upd (ne_of hb (s6 _ _ i5) fun z => n2 _ _ _ z) (off6 hb n1)
    refine q ca cb nw _ (fun b o n1 n2 hb => at_upd n1 (at_upd n2 (s6 _ _ (k5 b o n1 hb)))) (free_same s1 fa) (free_same s1 fb) (Paired.mapP rows fun a b z => fin z (fun _ z => nomatch z) (fun _ _ _ z => nomatch z)) ⟨upd_same, fin (s6 _ _ cu5) (fun _ z => nomatch z) (fun _ _ _ z => nomatch z), fin (s6 _ _ re5) (fun _ z => nomatch z) (fun _ _ _ z => nomatch z), at_upd (ne_of (s6 _ _ kw5) (s6 _ _ i5) nofun) (at_upd a.n1 (s6 _ _ kw5)), fin (s6 _ _ ow5) (fun _ z => nomatch z) (fun _ _ _ z => nomatch z), at_upd (ne_of (s6 _ _ en5) (s6 _ _ i5) nofun) upd_same, a.n1, Ne.symm nca, Ne.symm ncb⟩
structure TMf (P : Program) (w : World) (K : PySem.W.Frag) (mg : Str → Option Value) (base : Heap) (C : Addr) : Prop where
  vf : CalM P w K mg base CX0 5 C "value_for" (spTmVf K C)
  pr : CalM P w K mg base CX0 3 C "perform_round" (spTmPr C)
  check_distinct : Cal P w K mg base CX0 1 "check_distinct" spChkD
theorem ok_tmMt {f Cl : Addr} {fd : FuncData} (F : Fun K "move_together" "Team.move_together" s_Team_move_together f fd) (B : Bt mg) (T : TmC K Cl) (D : TMf P w K mg base Cl) : FnG P w K mg base CX0 6 f fd ["self", "pairs"] (spTmMt K Cl) := by
  have C := D
  refine fnG0 F sc_Team_move_together (fun vs H Q E h => ?_) (fun cdv A outer s H vs Q E hr h => ?_)
  · obtain ⟨m, pr, n, e, pl, vl, ns, pn, es, rfl, _⟩ := h
    rfl
  · obtain ⟨m, pr, n, e, pl, vl, ns, pn, es, rfl, a, gs, lo, hps, hpr, tp, lv, pll, el, ndp, ok, q⟩ := h
    have nd := sc_Team_move_together.nd
    have hu := hr.u1
    refine ⟨_, (pss_cons (ps_setLc (i := 2) (own := [("worker", 3), ("node", 4)]) rfl nd rfl rfl (sw_true rfl rfl rfl (by decide +kernel)) (ki_list K rfl (pv 1)) (blkOk_by (own := [("worker", 3), ("node", 4)]) (N := nN_Team_move_together) (sc := defScope s_Team_move_together) (by decide +kernel)) (fun _ _ _ _ _ => (kg_tup (n := 2) K rfl rfl (pgs_cons (pg_name (i := 3) nd rfl (by first | exact Or.inl rfl | exact Or.inr rfl)) (pgs_cons (pg_name (i := 4) nd rfl (by first | exact Or.inl rfl | exact Or.inr rfl)) pgs_nil)))) (fun _ _ _ _ _ => pts_nil) (fun _ _ _ _ _ => (pe_mG C.vf T.cl hr (by decide) pass0 (pv 0) (pa_cons (pv 3) (pa_cons (pv 4) pa_nil)))))
  (pss_cons (ps_expr (pe_c C.check_distinct hr (by decide) rfl (pa_cons (pe_lc (own := [("worker", 3), ("node", 4)]) rfl nd (ki_list K rfl (pv 1)) (blkOk_by (own := [("worker", 3), ("node", 4)]) (N := nN_Team_move_together) (sc := defScope s_Team_move_together) (by decide +kernel)) (fun _ _ _ _ _ => (kg_tup (n := 2) K rfl rfl (pgs_cons (pg_name (i := 3) nd rfl (by first | exact Or.inl rfl | exact Or.inr rfl)) (pgs_cons (pg_name (i := 4) nd rfl (by first | exact Or.inl rfl | exact Or.inr rfl)) pgs_nil)))) (fun _ _ _ _ _ => pts_nil) (fun _ _ _ _ _ => (pv 4))) pa_nil)))
  (pss_cons (ps_if (pt_cmpR (kNe K rfl hr.u64) (pv 1) (pe_lst pa_nil) (nomark _)) (pss_one (ps_expr (pe_mG C.pr T.cl hr (by decide) pass0 (pv 0) (pa_cons (pv 1) (pa_cons (pv 2) pa_nil))))) pss_nil)
  (pss_one (ps_ret (pv 2)))))), ?_⟩
    have l2 := gs.l2
    subst lo
    wtm_at "rd"
    refine rd_forL (SqL.of hpr) ?_
    intro D1 fD1
    refine lcL (K := K) (xs := pl.map fun x => V.ref x.1) (fun i H' => Same H H' ∧ H' D1 = some (.lst ((vl.take i).map V.int))) ⟨Same.new fD1, upd_same⟩ ?_ ?_ ?_
    · rintro i H' hi ⟨s, _⟩
      exact SqL.of (s _ _ hpr)
    · rintro i y H' hy ⟨s, hD⟩
      obtain ⟨hi, rfl⟩ := map_at hy
      have hi2 : i < vl.length := by omega
      obtain ⟨k1, k2, k3, k4, k5⟩ := ok i hi hi2
      have ht := s _ _ (tp _ (List.getElem_mem hi))
      rw [take_snoc hi2]
      have len : (vl.take i).length ≤ 1000 := by rw [List.length_take]; omega
      generalize pl[i] = y at *
      generalize vl[i] = v at *
      refine rd_unp (SqT.of ht) rfl ?_
      wtm_at "rd"
      refine m.call_value_for (s _ _ a.ins) ?_
      wtm_at "rd"
      refine ⟨m, y.2.1, y.2.2, v, n, e, m.lo, pn, es, rfl, a.same s, k1, gs.same s, rfl, Same.seqT s hps, k3, k4, k5, fun H2 s2 => ?_⟩
      refine rd_acc (s2 _ _ hD) (by rw [List.length_map]; omega) ?_
      refine ⟨same_put (s.trans s2) fD1, ?_⟩
      rw [upd_same, List.map_append]
      rfl
    rintro H1 ⟨s1, hD1⟩
    have ev : vl.take (pl.map fun x => V.ref x.1).length = vl := by rw [List.length_map, lv, List.take_length]
    rw [ev] at hD1
    have fD0 := fD1
    wtm_at "rd"
    refine rd_forL (SqL.of (s1 _ _ hpr)) ?_
    intro D2 fD2
    refine lcL (K := K) (xs := pl.map fun x => V.ref x.1) (fun i H' => Same H1 H' ∧ H' D2 = some (.lst (((pl.take i).map fun x => x.2.2).map V.str))) ⟨Same.new fD2, upd_same⟩ ?_ ?_ ?_
    · rintro i H' hi ⟨s, _⟩
      exact SqL.of (s _ _ (s1 _ _ hpr))
    · rintro i y H' hy ⟨s, hD⟩
      obtain ⟨hi, rfl⟩ := map_at hy
      have ht := s _ _ (s1 _ _ (tp _ (List.getElem_mem hi)))
      rw [take_snoc hi]
      have len : (pl.take i).length ≤ 1000 := by rw [List.length_take]; omega
      generalize pl[i] = y at *
      refine rd_unp (SqT.of ht) rfl ?_
      wtm_at "rd"
      refine rd_acc hD (by rw [List.length_map, List.length_map]; omega) ?_
      refine ⟨same_put s fD2, ?_⟩
      rw [upd_same, List.map_append, List.map_append]
      rfl
    rintro H2 ⟨s2, hD2⟩
    rw [List.length_map, List.take_length] at hD2
    wtm_at "rd"
    refine ⟨D2, pl.map fun x => x.2.2, rfl, hD2, ndp, by rw [List.length_map]; omega, fun H3 s3 => ?_⟩
    have s13 := (s1.trans s2).trans s3
    wtm_at "rd"
    intro z fz
    have kz := Same.new (o := .lst []) fz
    have hz := @upd_same H3 z (.lst [])
    have s4 := s13.trans kz
    have s24 := (s2.trans s3).trans kz
    generalize upd H3 z (.lst []) = H4 at *
    have sOk : ∀ x ∈ pl.map (·.2), PyData.strOk x.1 = true ∧ PyData.strOk x.2 = true := fun x hx => by
      obtain ⟨y, hy, rfl⟩ := List.mem_map.mp hx
      obtain ⟨i, hi, e⟩ := List.mem_iff_getElem.mp hy
      obtain ⟨_, k2, _, _, k5⟩ := ok i hi (by omega)
      rw [e] at k2 k5
      exact ⟨k2, gs.sok _ (prog_legal k5).1.mem⟩
    refine rd_neNilE (es := pl) (SqL.of (s4 _ _ hpr)) (fun x hx => SqT.of (s4 _ _ (tp x hx))) (SqL.of hz) sOk ?_
    have a4 := a.same s4
    have hva := s24 _ _ hD1
    cases pl with
    | nil =>
      wtm_at "rd"
      refine rd_F ?_
      wtm_at "rd"
      exact q D1 m H4 (fun b o _ _ h => s4 _ _ h) a4 fD0 hva (.inl ⟨rfl, rfl⟩)
    | cons p0 pr0 =>
      generalize hp0 : p0 :: pr0 = pl at *
      have pne : pl ≠ [] := fun z => by rw [← hp0] at z; cases z
      have e1 : (!pl.isEmpty) = true := by rw [← hp0]; rfl
      rw [e1]
      wtm_at "rd"
      refine m.call_perform_round a4.ins ?_
      wtm_at "rd"
      refine ⟨m, pr, D1, pl, vl, rfl, a4, s4 _ _ hpr, fun x hx => s4 _ _ (tp x hx), hva, lv, pll, fun x hx => ?_, by have := gs.pm.length_eq; omega, by omega, el, fun cu' re' nw H5 k5 f1 f2 rows a5 => ?_⟩
      · obtain ⟨i, hi, e⟩ := List.mem_iff_getElem.mp hx
        obtain ⟨_, _, _, _, k5⟩ := ok i hi (by omega)
        rw [e] at k5
        have := (prog_legal k5).1.mem
        exact ⟨gs.inO _ this, this⟩
      · wtm_at "rd"
        exact q D1 _ H5 (fun b o n1 n2 h => k5 b o n1 n2 (s4 _ _ h)) a5 fD0 (k5 _ _ (fun z => by rw [z, a4.ins] at hva; cases hva) (fun z => by
          have := s1 _ _ a.en
          rw [z] at fD0
          rw [a.en] at fD0
          cases fD0) hva) (.inr ⟨pne, cu', re', nw, free_same s4 f1, free_same s4 f2, rows, rfl⟩)
structure TMg (P : Program) (w : World) (K : PySem.W.Frag) (mg : Str → Option Value) (base : Heap) (C : Addr) : Prop where
  mt : CalM P w K mg base CX0 6 C "move_together" (spTmMt K C)
theorem ok_tmMv {f Cl : Addr} {fd : FuncData} (F : Fun K "move" "Team.move" s_Team_move f fd) (B : Bt mg) (T : TmC K Cl) (D : TMg P w K mg base Cl) : FnG P w K mg base CX0 7 f fd ["self", "worker", "node"] (spTmMv K Cl) := by
  have C := D
  refine fnG0 F sc_Team_move (fun vs H Q E h => ?_) (fun cdv A outer s H vs Q E hr h => ?_)
  · obtain ⟨m, w, x, v, n, e, ns, pn, es, rfl, _⟩ := h
    rfl
  · obtain ⟨m, w, x, v, n, e, ns, pn, es, rfl, a, wk, wok, gs, lo, hps, xo, ow, xv, el, q⟩ := h
    have nd := sc_Team_move.nd
    have hu := hr.u1
    refine ⟨_, (pss_one (ps_ret (pe_ix (kIx K rfl) (pe_mG C.mt T.cl hr (by decide) pass0 (pv 0) (pa_cons (pe_lst (pa_cons (pe_tup (pa_cons (pv 1) (pa_cons (pv 2) pa_nil))) pa_nil)) pa_nil)) pe_int (fun _ _ => rfl)))), ?_⟩
    wtm_at "rd"
    refine m.call_move_together a.ins ?_
    wtm_at "rd"
    intro t1 ft1
    have s1 := Same.new (o := .tup [.str w, .str x]) ft1
    have ht1 := @upd_same H t1 (.tup [.str w, .str x])
    generalize upd H t1 (.tup [.str w, .str x]) = H1 at *
    wtm_at "rd"
    intro l2 fl2
    have s2 := Same.new (o := .lst [.ref t1]) fl2
    have hl2 := @upd_same H1 l2 (.lst [.ref t1])
    have ht1 := s2 _ _ ht1
    have s12 := s1.trans s2
    generalize upd H1 l2 (.lst [.ref t1]) = H2 at *
    wtm_at "rd"
    refine ⟨m, l2, n, e, [(t1, w, x)], [v], ns, pn, es, rfl, a.same s12, gs.same s12, lo, Same.seqT s12 hps, hl2, fun y hy => by rw [List.mem_singleton.mp hy]; exact ht1, rfl, (by show 1 ≤ 1000; decide), el, List.pairwise_singleton _ _, fun i h h2 => ?_, fun va m' H3 k3 a3 fva hva alt => ?_⟩
    · obtain rfl : i = 0 := by
        have : i < 1 := h
        omega
      exact ⟨wk, wok, xo, ow, xv⟩
    · rcases alt with ⟨z, _⟩ | ⟨_, cu', re', nw, f1, f2, rows, rfl⟩
      · cases z
      · obtain ⟨a0, rfl⟩ : ∃ a0, nw = [a0] := by
          cases rows with
          | cons _ r =>
            cases r
            exact ⟨_, rfl⟩
        cases rows with
        | cons h4 _ =>
          refine rd_ixL (SqL.of hva) (v := .int v) rfl ?_
          wtm_at "rd"
          exact q cu' re' a0 H3 (fun b o n1 n2 h => k3 b o n1 n2 (s12 _ _ h)) (free_same s12 f1) (free_same s12 f2) h4 a3
structure TMh (P : Program) (w : World) (K : PySem.W.Frag) (mg : Str → Option Value) (base : Heap) (TT : List (Addr × Str)) : Prop where
  check_lift : Cal P w K mg base CX0 7 "check_lift" (spCheckLift K TT)
theorem ok_tmInit {f Cl : Addr} {fd : FuncData} {TT : List (Addr × Str)} (F : Fun K "__init__" "Team.__init__" s_Team_init f fd) (B : Bt mg) (T : TmC K Cl) (D : TMh P w K mg base TT) : FnG P w K mg base CX0 8 f fd ["self", "graph", "state", "lift", "pinned"] (spTmInit K TT Cl) := by
  have C := D
  refine fnG0 F sc_Team_init (fun vs H Q E h => ?_) (fun cdv A outer s H vs Q E hr h => ?_)
  · obtain ⟨t, dx, g, n, e, st, lf, ps, ns, ord, pn, es, f, h, rfl, _⟩ := h
    rfl
  · obtain ⟨t, dx, g, n, e, st, lf, ps, ns, ord, pn, es, f, h, rfl, ht, gs, hlf, hps, tabs, fe, q⟩ := h
    have nd := sc_Team_init.nd
    have hu := hr.u1
    refine ⟨_, (pss_cons (ps_expr (pe_c C.check_lift hr (by decide) rfl (pa_cons (pv 1) (pa_cons (pv 2) (pa_cons (pv 3) (pa_cons (pv 4) pa_nil))))))
  (pss_cons (ps_fld (pv 0) (pv 1) rfl)
  (pss_cons (ps_fld (pv 0) (pe_callTy cDict (by rfl) B.dict bb_dict (pa_cons (pv 2) pa_nil)) rfl)
  (pss_cons (ps_fld (pv 0) (pe_callTy cDict (by rfl) B.dict bb_dict (pa_cons (pv 3) pa_nil)) rfl)
  (pss_cons (ps_fld (pv 0) (pv 4) rfl)
  (pss_cons (ps_fld (pv 0) (pe_lst pa_nil) rfl)
  (pss_cons (ps_fld (pv 0) pe_dnewK rfl)
  (pss_cons (ps_fld (pv 0) (pe_lst pa_nil) rfl)
  (pss_one (ps_fld (pv 0) pe_int rfl)))))))))), ?_⟩
    wtm_at "rd"
    refine ⟨g, n, e, st, lf, ps, ns, ord, pn, es, f, h, rfl, gs, hlf, hps, tabs, fe, fun H1 x1 tb1 => ?_⟩
    have ht1 := x1 _ _ ht nofun
    have st1 := ExtN.dk x1 gs.st
    have lf1 := ExtN.dk x1 hlf
    have new1 : ∀ {b : Addr}, H1 b = none → NewN H b := fun {b} z c o hc hn e => by
      have := x1 _ _ hc hn
      rw [e, z] at this
      cases this
    have step : ∀ (H2 : Hp) (fs : List (Str × V)) (f2 : Str) (v : V) {R : Hp → Prop}, H2 t = some (.ins Cl dx fs) → NoAttr K Cl f2 → fs.length < 1000 → (∀ H3, H3 t = some (.ins Cl dx (putF f2 v fs)) → (∀ b, b ≠ t → H3 b = H2 b) → R H3) → ∃ a C dx fs, V.ref t = .ref a ∧ H2 a = some (.ins C dx fs) ∧ Cls K C ∧ NoAttr K C f2 ∧ fs.length < 1000 ∧ R (upd H2 a (.ins C dx (putF f2 v fs))) := fun H2 fs f2 v R h2 nf lf2 k => ⟨t, Cl, dx, fs, rfl, h2, T.cl, nf, lf2, k _ upd_same fun b nb => upd_ne nb⟩
    have nt : ∀ {H2 : Hp} {b : Addr} {fs : List (Str × V)}, H2 t = some (.ins Cl dx fs) → H2 b = none → b ≠ t := fun {H2 b fs} h1 h2 z => by
      rw [z, h1] at h2
      cases h2
    wtm_at "rd"
    refine step H1 [] "own_graph" (.ref g) ht1 T.no_own_graph (by decide) fun H2 t2 e2 => ?_
    have st2 := (e2 st (ne_of st1 ht1 nofun)).trans st1
    have lf2 := (e2 lf (ne_of lf1 ht1 nofun)).trans lf1
    wtm_at "rd"
    refine ⟨_, .inl st2, fun cu fcu => ?_⟩
    have ncu := nt t2 fcu
    have scu := Same.new (o := .dK (kvF ord f)) fcu
    have hcu := @upd_same H2 cu (.dK (kvF ord f))
    have t2 := scu _ _ t2
    have lf2 := scu _ _ lf2
    have fcu1 : H1 cu = none := (e2 cu ncu).symm.trans fcu
    have k2 : ∀ b o, b ≠ t → H1 b = some o → upd H2 cu (.dK (kvF ord f)) b = some o := fun b o nb hb => scu _ _ ((e2 b nb).trans hb)
    generalize upd H2 cu (.dK (kvF ord f)) = H3 at *
    clear scu e2 fcu st2
    wtm_at "rd"
    refine step H3 _ "current" (.ref cu) t2 T.no_current (by show 1 < 1000; decide) fun H4 t4 e4 => ?_
    have lf4 := (e4 lf (ne_of lf2 t2 nofun)).trans lf2
    have cu4 := (e4 cu ncu).trans hcu
    have k4 : ∀ b o, b ≠ t → H1 b = some o → H4 b = some o := fun b o nb hb => (e4 b nb).trans (k2 b o nb hb)
    clear t2 lf2 hcu e4 k2
    wtm_at "rd"
    refine ⟨_, .inl lf4, fun re fre => ?_⟩
    have nre := nt t4 fre
    have ncr : re ≠ cu := fun z => by rw [z, cu4] at fre; cases fre
    have sre := Same.new (o := .dK (kvF ns h)) fre
    have hre := @upd_same H4 re (.dK (kvF ns h))
    have t4 := sre _ _ t4
    have cu4 := sre _ _ cu4
    have fre1 : NewN H re := fun c o hc hn e => by
      have h1 := x1 _ _ hc hn
      have := k4 _ _ (fun z => nre (e.symm.trans z)) h1
      rw [e, fre] at this
      cases this
    have k4 : ∀ b o, b ≠ t → H1 b = some o → upd H4 re (.dK (kvF ns h)) b = some o := fun b o nb hb => sre _ _ (k4 b o nb hb)
    generalize upd H4 re (.dK (kvF ns h)) = H5 at *
    clear sre fre lf4
    wtm_at "rd"
    refine step H5 _ "rest" (.ref re) t4 T.no_rest (by show 2 < 1000; decide) fun H6 t6 e6 => ?_
    wtm_at "rd"
    refine step H6 _ "own_pins" (.ref ps) t6 T.no_own_pins (by show 3 < 1000; decide) fun H7 t7 e7 => ?_
    have cu7 := (e7 cu ncu).trans ((e6 cu ncu).trans cu4)
    have re7 := (e7 re nre).trans ((e6 re nre).trans hre)
    have k7 : ∀ b o, b ≠ t → H1 b = some o → H7 b = some o := fun b o nb hb => (e7 b nb).trans ((e6 b nb).trans (k4 b o nb hb))
    clear t4 cu4 hre e6 e7 k4 t6
    wtm_at "rd"
    intro kw fkw
    have nkw := nt t7 fkw
    have skw := Same.new (o := .lst []) fkw
    have hkw := @upd_same H7 kw (.lst [])
    have t7 := skw _ _ t7
    have cu7 := skw _ _ cu7
    have re7 := skw _ _ re7
    have fkw1 : NewN H kw := fun c o hc hn e => by
      have h1 := x1 _ _ hc hn
      have := k7 _ _ (fun z => nkw (e.symm.trans z)) h1
      rw [e, fkw] at this
      cases this
    have k7 : ∀ b o, b ≠ t → H1 b = some o → upd H7 kw (.lst []) b = some o := fun b o nb hb => skw _ _ (k7 b o nb hb)
    generalize upd H7 kw (.lst []) = H8 at *
    clear skw fkw
    wtm_at "rd"
    refine step H8 _ "known_workers" (.ref kw) t7 T.no_known_workers (by show 4 < 1000; decide) fun H9 t9 e9 => ?_
    have cu9 := (e9 cu ncu).trans cu7
    have re9 := (e9 re nre).trans re7
    have kw9 := (e9 kw nkw).trans hkw
    have k9 : ∀ b o, b ≠ t → H1 b = some o → H9 b = some o := fun b o nb hb => (e9 b nb).trans (k7 b o nb hb)
    clear t7 cu7 re7 hkw e9 k7
    wtm_at "rd"
    intro ow fow
    have now_ := nt t9 fow
    have noc : ow ≠ cu := fun z => by rw [z, cu9] at fow; cases fow
    have nor : ow ≠ re := fun z => by rw [z, re9] at fow; cases fow
    have sow := Same.new (o := .dK []) fow
    have how := @upd_same H9 ow (.dK [])
    have t9 := sow _ _ t9
    have cu9 := sow _ _ cu9
    have re9 := sow _ _ re9
    have kw9 := sow _ _ kw9
    have fow1 : NewN H ow := fun c o hc hn e => by
      have h1 := x1 _ _ hc hn
      have := k9 _ _ (fun z => now_ (e.symm.trans z)) h1
      rw [e, fow] at this
      cases this
    have k9 : ∀ b o, b ≠ t → H1 b = some o → upd H9 ow (.dK []) b = some o := fun b o nb hb => sow _ _ (k9 b o nb hb)
    generalize upd H9 ow (.dK []) = HA at *
    clear sow fow
    wtm_at "rd"
    refine step HA _ "owners" (.ref ow) t9 T.no_owners (by show 5 < 1000; decide) fun HB tB eB => ?_
    have cuB := (eB cu ncu).trans cu9
    have reB := (eB re nre).trans re9
    have kwB := (eB kw nkw).trans kw9
    have owB := (eB ow now_).trans how
    have kB : ∀ b o, b ≠ t → H1 b = some o → HB b = some o := fun b o nb hb => (eB b nb).trans (k9 b o nb hb)
    clear t9 cu9 re9 kw9 how eB k9
    wtm_at "rd"
    intro en fen
    have nen := nt tB fen
    have nke : kw ≠ en := fun z => by rw [← z, kwB] at fen; cases fen
    have sen := Same.new (o := .lst []) fen
    have hen := @upd_same HB en (.lst [])
    have tB := sen _ _ tB
    have cuB := sen _ _ cuB
    have reB := sen _ _ reB
    have kwB := sen _ _ kwB
    have owB := sen _ _ owB
    have fen1 : NewN H en := fun c o hc hn e => by
      have h1 := x1 _ _ hc hn
      have := kB _ _ (fun z => nen (e.symm.trans z)) h1
      rw [e, fen] at this
      cases this
    have kB : ∀ b o, b ≠ t → H1 b = some o → upd HB en (.lst []) b = some o := fun b o nb hb => sen _ _ (kB b o nb hb)
    generalize upd HB en (.lst []) = HC at *
    clear sen fen
    wtm_at "rd"
    refine step HC _ "entries" (.ref en) tB T.no_entries (by show 6 < 1000; decide) fun HD tD eD => ?_
    wtm_at "rd"
    refine step HD _ "rounds_done" (.int 0) tD T.no_rounds_done (by show 7 < 1000; decide) fun HE tE eE => ?_
    have all : ∀ b, b ≠ t → HE b = HC b := fun b nb => (eE b nb).trans (eD b nb)
    have kE : ∀ b o, b ≠ t → H1 b = some o → HE b = some o := fun b o nb hb => (all b nb).trans (kB b o nb hb)
    have efs : (putF "rounds_done" (V.int 0) (putF "entries" (.ref en) (putF "owners" (.ref ow) (putF "known_workers" (.ref kw) (putF "own_pins" (.ref ps) (putF "rest" (.ref re) (putF "current" (.ref cu) (putF "own_graph" (.ref g) ([] : List (Str × V)))))))))) = ({ t := t, dx := dx, g := g, cu := cu, re := re, ps := ps, kw := kw, ow := ow, en := en, kws := [], oks := [], own := fun y => y, ens := [], r := 0, ord := ord, lo := ns, f := f, h := h } : Tm).fs := tm_made
    wtm_at "rd"
    refine q { t := t, dx := dx, g := g, cu := cu, re := re, ps := ps, kw := kw, ow := ow, en := en, kws := [], oks := [], own := fun y => y, ens := [], r := 0, ord := ord, lo := ns, f := f, h := h } HE (fun b o nb hb z => kE _ _ nb (x1 _ _ hb z)) ?_ ⟨tE.trans (congrArg (fun l => some (HO.ins Cl dx l)) efs), (all _ ncu).trans cuB, (all _ nre).trans reB, (all _ nkw).trans kwB, (all _ now_).trans owB, (all _ nen).trans hen, nke, noc, nor⟩ rfl rfl rfl rfl rfl rfl rfl rfl rfl rfl rfl (new1 fcu1) fre1 fkw1 fow1 fen1
    exact fun p hp => by
      obtain ⟨ps, h1, h2, h3⟩ := tb1 p hp
      refine ⟨ps, kE _ _ (ne_of h1 ht1 nofun) h1, h2, fun pos cv hc => ?_⟩
      obtain ⟨c, g1, g2⟩ := h3 pos cv hc
      exact ⟨c, g1, kE _ _ (ne_of g2 ht1 (by intro z; unfold CodeO at z; cases z)) g2⟩
end
end Law

/-! the facts of an own error class, gathered from the fragment -/
namespace U
open PySem PySem.Spec PyProof.Rows L2
theorem exm_sub {K : PySem.W.Frag} {S T : Addr} (h1 : PySem.W.subIn K (.ref S) (.type "BaseException") = some true) (b1 : PySem.W.subIn K (.ref T) (.type "BaseException") = some true) (h2 : PySem.W.isClsIn K T = true) (h3 : PySem.W.typeIn K (.ref T) = some (.type "type")) (h4 : PySem.W.subIn K (.ref S) (.ref T) = some true) :
    PySem.W.exmOne K (.ref S) (.ref T) = some true := by
  have e1 : (PySem.W.subIn K (.ref T) (.type "BaseException") == some true) = true := by rw [b1] <;> rfl
  have e2 : ((PySem.W.clsIn K T).isSome && PySem.W.typeIn K (.ref T) == some (.type "type")) = true := by
    have h2' : (PySem.W.clsIn K T).isSome = true := h2
    rw [h2', h3] <;> rfl
  show (if (PySem.W.subIn K (.ref T) (.type "BaseException") == some true) = true then (if ((PySem.W.clsIn K T).isSome && PySem.W.typeIn K (.ref T) == some (.type "type")) = true then PySem.W.subIn K (.ref S) (.ref T) else none) else none) = some true
  rw [if_pos e1, if_pos e2]
  exact h4
end U

/-! own exceptions with one field over any built-in class of the plain kind -/
namespace U
open PySem PySem.Spec PyProof.Rows L2
/-- the call of an own class over such a base, its __init__ a def -/
def CallOwn (newId : String) (bmB : List Value) : Prop := ∀ (P : Program) (w : World) (A : Around) (R : Result → Shared → Prop) (h : Heap) (g : Array GenState) (d : Drawn) (t : Nat) (os : OsState) (nm q : Str) (C N : Addr) (bs bm : List Value) (hdct : Bool) (sn : List Str) (sub : List Value) (ab : Bool) (col : Option Bool) (dd : Option Addr)
    (k0 k1 k2 k3 k5 : Option Value) (us : List Value) (fI : Addr), (∀ X : String, bm.contains (.type X) = bmB.contains (.type X)) → h.get? C = some (excClassObj nm q C N bs bm hdct sn sub ab col dd k0 k1 k2 k3 k5 newId) →
    PySem.W.Looks (model P w) h (typeLookup (.ref C) "__init__") (some (.ref fI)) → (∀ self, PySem.W.Looks (model P w) h (bindSpecial (.ref fI) self) (.ref fI, [self])) → us.length ≤ sizeLine →
    codeAny (model P w) (A.under (.builtin "type.__call__" ⟨.ref C :: us, []⟩)) (.call (.ref fI) ⟨.ref (h.objs.size + 1) :: us, []⟩) (PySem.W.InitBack (h.objs.size + 1) R) ⟨(h.push (PySem.W.kdv_tup us)).push (PySem.HandSPX.excO C h.objs.size), g, d, t, os⟩ →
    codeAny (model P w) A (.call (.ref C) ⟨us, []⟩) R ⟨h, g, d, t, os⟩
/-- the base's own __init__, called within it -/
def InitOwn (initId newId : String) (bmB : List Value) : Prop := ∀ (P : Program) (w : World) (A : Around) (R : Result → Shared → Prop) (h : Heap) (g : Array GenState) (d : Drawn) (t : Nat) (os : OsState) (nm q : Str) (C N : Addr) (bs bm : List Value) (hdct : Bool) (sn : List Str) (sub : List Value) (ab : Bool) (col : Option Bool) (dd : Option Addr)
    (k0 k1 k2 k3 k5 : Option Value) (us : List Value) (e t0 : Addr), (∀ X : String, bm.contains (.type X) = bmB.contains (.type X)) → h.get? C = some (excClassObj nm q C N bs bm hdct sn sub ab col dd k0 k1 k2 k3 k5 newId) → h.get? e = some (PySem.HandSPX.excO C t0) → us.length ≤ sizeLine →
    (∀ h' t1, (∀ b o, b ≠ e → h.get? b = some o → h'.get? b = some o) → h'.get? e = some (PySem.HandSPX.excO C t1) → R (.ok (.ret .none)) ⟨h', g, d, t, os⟩) → codeAny (model P w) A (.call (.builtin initId) ⟨.ref e :: us, []⟩) R ⟨h, g, d, t, os⟩
/-- what is asked of the built-in class -/
structure BasF (B newId initId : String) (bmB : List Value) : Prop where
  call : CallOwn newId bmB
  init : InitOwn initId newId bmB
  pass : ∀ self : Value, refuseLoop self "__setattr__" bmB = pure ()
  obj : bmB.contains (.type "object") = true
  typ : typeOf (.type B) = pure (.type "type")
  stub : Manifest.isStub B = false
  blt : bootBuiltins (Str.ofString B) = some (.type B)
  nam : Str.ofString B ≠ "__name__"
  dbg : (Str.ofString B == ("__debug__" : Str)) = false
  hin : PySem.W.handedIn (.builtin initId) = true
  ne : bmB ≠ []
/-- what the written part says of the own class -/
structure OexB (K : PySem.W.Frag) (C : Addr) (newId : String) (bmB : List Value) : Prop where
  cls : ∃ nm q N bs bm sn sub ab col dd k0 k1 k2 k3 k5, K.lookup C = some (excClassObj nm q C N bs bm true sn sub ab col dd k0 k1 k2 k3 k5 newId) ∧ PySem.W.excTail bmB bm = true
  sa : PySem.W.findIn K (.ref C) "__setattr__" = some (some (.builtin "object.__setattr__"))
  exC : PySem.W.subIn K (.ref C) (.type "BaseException") = some true
  tyC : PySem.W.typeIn K (.ref C) = some (.type "type")
  kC : PySem.W.keepIn K (.ref C) = true
theorem tail_ne {bmB : List Value} (nb : bmB ≠ []) {l : List Value} (h : PySem.W.excTail bmB l = true) : l.isEmpty = false := by
  cases l with
  | nil => exact absurd (beq_iff_eq.mp h : ([] : List Value) = bmB).symm nb
  | cons _ _ => rfl
section
variable {P : Program} {w : World} {A : Around} {R : Result → Shared → Prop} {hp : Heap} {g : Array GenState} {d : Drawn} {t : Nat} {os : OsState} {B newId initId : String} {bmB : List Value}
/-- the first field -/
theorem osa_first {K : PySem.W.Frag} {f : Str} {tk : Tok} {v : Value} {a C : Addr} {fv : Array Value} {cd : ClassData} (BF : BasF B newId initId bmB) (X : K.In hp) (ha : hp.get? a = some { cls := .ref C, data := .fields fv }) (hcd : PySem.W.clsIn K C = some cd) (hm : PySem.W.excTail bmB cd.mro = true)
    (hh : cd.hasDict = true) (no : PySem.W.findIn K (.ref C) f = some none)
    (hq : ∀ h' tk' dx, (∀ b o, b ≠ a → hp.get? b = some o → h'.get? b = some o) → hp.objs.size ≤ dx → dx ≠ a → h'.get? a = some { cls := .ref C, dict := some dx, data := .fields fv } → h'.Ns1 dx (fun y => if y = f then some v else none) → R (.ok (.ret .none)) ⟨h', g, d, tk', os⟩) :
    codeAny (model P w) A (.call (.builtin "object.__setattr__") ⟨[.ref a, .str f tk, v], []⟩) R ⟨hp, g, d, t, os⟩ := by
  have I1 : PySem.W.InstAt hp a { cls := .ref C, data := .fields fv } C none := ⟨ha, rfl, rfl, trivial⟩
  have na : a ≠ hp.objs.size := Nat.ne_of_lt (Heap.lt_size ha)
  have ob := (PySem.W.excTail_contains "object" _ hm).trans BF.obj
  have inst : PySem.W.Looks (model P w) hp (isInstance (.ref a) (.type "object")) true := by
    refine I1.type.andThen (PySem.W.looks_mroIn X ?_)
    unfold PySem.W.mroIn
    rw [hcd, Option.bind_some, if_neg (by rw [tail_ne BF.ne hm]; decide), ob]
  have cl : PySem.W.Looks (model P w) hp (classData C) cd := PySem.W.looks_clsIn X hcd
  have mr : PySem.W.Looks (model P w) hp (mroOf (.ref C)) cd.mro := cl.andThen .now
  have tk0 : PySem.W.Looks (model P w) hp (Builtin.ObjectAttr.storeTaker? none) none := .now
  refine codeAny_call_builtin F.store_object.slot.plain F.store_object.entry (@PySem.W.check_slot (model P w) _ _ ⟨hp, g, d, t, os⟩ "object.__setattr__" "object" "__setattr__" (.ref a) [.str f tk, v] [] _ F.store_object.kind F.store_object.split inst (F.store_object.args (.ref a) (.str f tk) v) ?_)
  rw [PySem.W.osa_eq, refuse_eq]
  refine wpAny_bind ?_
  refine wpAny_bind (I1.type.at ?_)
  refine wpAny_bind (mr.at ?_)
  rw [PySem.W.excTail_pass _ (BF.pass _) _ hm]
  refine wpAny_pure ?_
  refine wpAny_bind (I1.type.at ?_)
  refine wpAny_bind ((PySem.W.looks_findIn X no).at ?_)
  refine wpAny_bind (tk0.at ?_)
  show wpAny _ _ (Builtin.ObjectAttr.storeInOwnDict (.ref a) (.ref C) (.str f tk) f v false) _ _ _
  obtain ⟨_, _, _, _, _, hd, _, _, _, _, _⟩ := cd
  obtain rfl : hd = true := hh
  unfold Builtin.ObjectAttr.storeInOwnDict Builtin.ObjectAttr.ownDictForStores
  repeat (first | with_reducible refine PySem.HandSPX.store_in_new ?_ ?_ | with_reducible refine wpAny_loadPart_at ha ?_ | with_reducible refine cl.at ?_ | wp_step)
  · exact ⟨_, #[], _, Eq.trans (Heap.get?_update_ne _ _ _ _ na.symm) (Heap.get?_push_at rfl rfl), rfl, (fun e he => absurd he (by simp)), fun _ => rfl⟩
  · intro h2 tk2 hn2 hs
    have old : (hp.push { cls := .type "dict", data := .dict #[] }).get? a = some { cls := .ref C, data := .fields fv } := Heap.get?_push_of_some _ ha
    refine hq h2 tk2 hp.objs.size (fun b o nb hb => ?_) (Nat.le_refl _) na.symm ?_ hn2
    · rw [hs.2 b (Nat.ne_of_lt (Heap.lt_size hb)), Heap.get?_update_ne _ _ _ _ nb]
      exact Heap.get?_push_of_some _ hb
    · rw [hs.2 a na]
      exact Heap.get?_update_self _ old rfl
end
section
variable {X : Cx} {pins : List (Addr × Obj)} {σ : L2.St} {H : Hp} {s : Shared} {a C dx : Addr} {f : Str} {y : V} {u : Value} {B newId initId : String} {bmB : List Value}
theorem ost_first {Q : Unit → Shared → Prop} {E : Value → Shared → Prop} {A : Around} (BF : BasF B newId initId bmB) (T : OexB X.K C newId bmB) (I : Inv X pins σ H s) (e : H a = some (exo a C none)) (no : PySem.W.findIn X.K (.ref C) f = some none) (ry : RelV y u)
    (h : ∀ dx s', H dx = none → dx ≠ a → Inv X pins σ (upd (upd H dx (exd dx [(f, y)])) a (exo a C (some dx))) s' → Q () s') : wpAny (model X.prog X.w) A (setAttr (.ref a) f u) Q E s := by
  obtain ⟨nm, q, N, bs, bm, sn, sub, ab, col, dd, k0, k1, k2, k3, k5, hC, hbm⟩ := T.cls
  have hcl : PySem.W.clsIn X.K C = some { name := nm, bases := bs, mro := .ref C :: bm, ns := N, qualname := q, hasDict := true, slotNames := sn, subclasses := sub, abstract := ab, collection := col, hasDel := false } := by
    unfold PySem.W.clsIn
    rw [hC] <;> rfl
  obtain ⟨t1, ho⟩ := exo_at I.hok e
  obtain ⟨hp, g, d, t, os⟩ := s
  refine PySem.W.set_plain I.kIn (od := none) (ox := { cls := .ref C, dict := none, data := .fields #[.ref t1, .none, .none, .none, .bool false, .none] }) ⟨ho, rfl, rfl, trivial⟩ T.sa ?_
  refine osa_first BF I.kIn ho hcl (show PySem.W.excTail bmB (.ref C :: bm) = true from hbm) rfl no fun h' tk' dx k dn dne hx hn => ?_
  have hnd : H dx = none := I.hok.fresh dn
  have nd : ∀ {b : Addr} {o : Obj}, hp.get? b = some o → b ≠ dx := fun {b o} q => Nat.ne_of_lt (Nat.lt_of_lt_of_le (Heap.lt_size q) dn)
  have na : ∀ {b : Addr}, H b = none → b ≠ a := fun {b} n z => by
    rw [z, e] at n
    cases n
  have old : ∀ {b : Addr} {o : HO}, H b = some o → exo a C none ≠ o → upd (upd H dx (exd dx [(f, y)])) a (exo a C (some dx)) b = some o := fun {b o} q ne => at_upd (at_ne e q ne) (at_upd (ne_of_none q hnd) q)
  have U : Un X.fs [] H (upd (upd H dx (exd dx [(f, y)])) a (exo a C (some dx))) hp h' := {
    keep := fun b o q n _ _ => k b o (na n) q
    slot := fun b o q n _ _ => ⟨_, k b o (na n) q⟩
    free := fun b o q n _ => no_upd (na n) (no_upd (nd q) n)
    there := fun b o q _ => Classical.byCases (fun hb : b = a => ⟨_, hb ▸ hx⟩) fun hb => ⟨o, k b o hb q⟩
    tups := fun b xs q => old q exo_tup
    frzs := fun b o v q => old q exo_frz
    tbls := fun b ps q => ⟨#[], by rw [old q exo_tbl]; simp⟩ }
  refine h dx _ hnd dne (I.un (t' := tk') U fun b o q => ?_)
  by_cases hb : b = a
  · subst hb
    rw [upd_same] at q
    cases q
    exact exo_ok hx
  rw [upd_ne hb] at q
  by_cases hd : b = dx
  · subst hd
    rw [upd_same] at q
    cases q
    exact exd_ok hn (relO_put (fs := []) ry fun g => True.intro)
  rw [upd_ne hd] at q
  refine (I.hok b o q).stay (fun c v hc z => k c v ?_ z) (fun c hc => old hc exo_own) fun c xs hc => old hc exo_tup
  rcases hc with rfl | hc
  · exact hb
  · exact at_ne e hc exo_own
theorem oinit_b {us : List Value} {Q : Value → Shared → Prop} {E : Value → Shared → Prop} {A : Around} (BF : BasF B newId initId bmB) (T : OexB X.K C newId bmB) (I : Inv X pins σ H s) (e : H a = some (exo a C none)) (hl : us.length ≤ sizeLine) (h : ∀ s', Inv X pins σ H s' → Q .none s') :
    wpAny (model X.prog X.w) A (call (.builtin initId) (.ref a :: us)) Q E s := by
  obtain ⟨nm, q, N, bs, bm, sn, sub, ab, col, dd, k0, k1, k2, k3, k5, hC, hbm⟩ := T.cls
  obtain ⟨t1, ho⟩ := exo_at I.hok e
  obtain ⟨hp, g, d, t, os⟩ := s
  refine wpAny_call (BF.init _ _ _ _ _ _ _ _ _ _ _ _ _ _ _ _ _ _ _ _ _ _ _ _ _ _ _ _ _ (fun Y => PySem.W.excTail_contains Y bm hbm) (I.kIn _ _ hC) ho hl fun h' t2 k hx => ?_)
  have J := I.write (t' := t) (x := a) (e := a) (o := exo a C none) (by rw [e]; exact True.intro) (.inl rfl) k ⟨_, hx⟩ (exo_ok hx)
  rw [show upd H a (exo a C none) = H from funext fun b => by
    by_cases hb : b = a
    · rw [hb, upd_same, e]
    · exact upd_ne hb] at J
  exact h _ J
/-- B.__init__(self, ..) -/
def tBtI (K : PySem.W.Frag) (newId : String) (bmB : List Value) (ta : TA) : TE := fun σ H Q => ta σ H fun vs H1 => ∃ (a C : Addr) (ws : List V), vs = .ref a :: ws ∧ ws.length ≤ 1000 ∧ OexB K C newId bmB ∧ H1 a = some (exo a C none) ∧ Q .non H1
/-- self.f = e, the first field -/
def tOstB (K : PySem.W.Frag) (newId : String) (bmB : List Value) (f : Str) (to te : TE) : TS := fun D σ H => te σ H fun y H1 => to σ H1 fun x H2 => ∃ a C : Addr, x = .ref a ∧ OexB K C newId bmB ∧ PySem.W.findIn K (.ref C) f = some none ∧
  H2 a = some (exo a C none) ∧ ∀ dx, H2 dx = none → dx ≠ a → D.nx σ (upd (upd H2 dx (exd dx [(f, y)])) a (exo a C (some dx)))
variable {o e : Expr} {es : List Expr} {to te : TE} {ta : TA} {p p' p1 p2 pos : Pos}
theorem pe_btinit (BF : BasF B newId initId bmB) {pl : Sem Bool} (hg : Gl X (Str.ofString B)) (hm : X.mg (Str.ofString B) = none) (vV : PySem.W.findCls X.K (.type B) (.type "type") "__init__" = some (.val (.builtin initId))) (ha : PA X (e :: es) ta)
    (hc : eval (.Call (.Attribute (.Name (Str.ofString B) p1) "__init__" p2) (e :: es) [] pos) X.env = (do
      let ov ← eval (.Name (Str.ofString B) p1) X.env
      standAt p2.atName
      let (f, first) ← holding [ov] (getMethod ov "__init__" pl)
      callWith pos f first (backTo pos (starEach (e :: es) X.env)) (backToKw pos (keywordEach [] X.env))) := by rfl)
    (he : starEach (e :: es) X.env = (false, eval e X.env) :: starEach es X.env := by rfl) (hpl : (backTo pos (starEach es X.env)).any (·.1) = false := by rfl) :
    PE X (.Call (.Attribute (.Name (Str.ofString B) p1) "__init__" p2) (e :: es) [] pos) (tBtI X.K newId bmB ta) := by
  refine ⟨fun pins s σ H Q I h => PySem.W.methodCall_KW (ld_blt I hg hm BF.blt ?_ BF.nam BF.dbg) hc⟩
  obtain ⟨m, fr⟩ := I.fr
  refine PySem.W.method_type fr I.ok.mod.kin BF.typ BF.stub vV BF.hin ?_
  show wpAny _ _ (callWith pos (Value.builtin initId) [] (backTo pos (starEach (e :: es) X.env)) []) _ _ _
  refine PyProof.Rows.callWith_method1 (thn (ha.run pos pins _ σ H _ (I.tok _) h) fun us s1 ⟨vs, H1, I1, r1, a, C, ws, ev, hl, T, ea, q⟩ => ?_) he hpl
  subst ev
  cases r1 with
  | @cons _ u0 _ ur ra rw' =>
    obtain rfl : u0 = Value.ref a := ra
    exact oinit_b BF T I1 ea (by rw [← Paired.length rw', sizeLine_eq]; omega) fun s' J => ⟨.non, H1, J, rfl, q⟩
theorem ps_ostB (BF : BasF B newId initId bmB) (ho : PE X o to) (he : PE X e te) (hs : swapsWith e (some (.Attribute o f p')) pos.line X.env = pure false := by rfl) : PS X (.Assign [.Attribute o f p'] e pos) (tOstB X.K newId bmB f to te) := by
  refine ⟨fun pins s σ H D I h => plainObj_wpAny_Assign_Attribute (thn (he.run pins s σ H _ I h) fun v s1 ⟨y, H1, I1, r1, q1⟩ => ?_) hs⟩
  refine thn (ho.run pins s1 σ H1 _ I1 q1) fun u s2 ⟨x, H2, I2, r2, a, C, ex, T, hno, ea, q⟩ => ?_
  subst ex
  obtain rfl : u = Value.ref a := r2
  exact ost_first BF T I2 ea hno r1 fun dx s' n ne J => ⟨σ, _, J, q dx n ne⟩
theorem pmk_b (BF : BasF B newId initId bmB) {CX : CXT} {x : Str} {fI : Addr} {k : Nat} {fd : FuncData} {ps : List Str} {sp : Sp} {ds : List Value} {dvs : List V} (T : OexB X.K C newId bmB) (iC : PySem.W.findIn X.K (.ref C) "__init__" = some (some (.ref fI))) (tI : PySem.W.typeIn X.K (.ref fI) = some (.type "function"))
    (F1 : FnOk X.prog X.w X.K X.mg X.base CX k fI fd ps sp) (hr : Room (k + 1) X.A) (hb : Binds X.K fd ps ds) (hd : Vals dvs ds) (hx : Passes CX X (fun _ _ _ => False)) (hg : Gl X x) (hm : X.mg x = some (.ref C)) (ha : PA X (e :: es) ta)
    (hdb : (x == ("__debug__" : Str)) = false := by decide) (he : starEach (e :: es) X.env = (false, eval e X.env) :: starEach es X.env := by rfl) (hpl : (backTo pos (starEach es X.env)).any (·.1) = false := by rfl) :
    PMk X (.Call (.Name x p) (e :: es) [] pos) (tMkO C sp dvs ta) := by
  intro pins s σ H Q I h
  obtain ⟨nm, q, N, bs, bm, sn, sub, ab, col, dd, k0, k1, k2, k3, k5, hC, hbm⟩ := T.cls
  refine wpAny_Call_Name_kw (ld_glob I hg hm ?_ hdb)
  refine PySem.W.callWith_K (h₀ := X.base) I.ok.mod.kin T.kC (thn (ha.run pos pins s σ H _ I h) fun us s1 ⟨vs, H1, I1, r1, hz, q1⟩ => ⟨I1.kIn, ?_⟩) he hpl
  obtain ⟨hp, g, dr, tk, os⟩ := s1
  show wpAny _ _ (call (.ref C) us) _ _ _
  have le : hp.objs.size ≤ hp.objs.size + 1 := Nat.le_succ _
  have want := q1 (hp.objs.size + 1) (I1.hok.fresh le)
  generalize hG : (hp.push (PySem.W.kdv_tup us)).push (PySem.HandSPX.excO C hp.objs.size) = G
  have kk : ∀ b o, hp.get? b = some o → G.get? b = some o := fun b o z => by
    rw [← hG]
    exact Heap.get?_push_of_some _ (Heap.get?_push_of_some _ z)
  have at1 : G.get? (hp.objs.size + 1) = some (PySem.HandSPX.excO C hp.objs.size) := by
    rw [← hG]
    heap_get
  have I2 : Inv X pins σ (upd H1 (hp.objs.size + 1) (exo (hp.objs.size + 1) C none)) ⟨G, g, dr, tk, os⟩ := I1.laid (a := hp.objs.size + 1) (o := exo (hp.objs.size + 1) C none) (t' := tk) (h' := G) kk le (exo_ok at1)
  have r2 : Vals (V.ref (hp.objs.size + 1) :: (vs ++ dvs)) (Value.ref (hp.objs.size + 1) :: (us ++ ds)) := .cons rfl (r1.append hd)
  have cnt : (Value.ref (hp.objs.size + 1) :: us ++ ds).length = ps.length := by
    rw [← F1.len _ _ _ _ want]
    exact r2.length.symm
  have small : us.length ≤ sizeLine := by
    rw [← Paired.length r1, sizeLine_eq]
    omega
  have run := F1.run _ X.stack _ _ ⟨Value.ref (hp.objs.size + 1) :: us, []⟩ (Value.ref (hp.objs.size + 1) :: (us ++ ds)) _ _ (fun _ _ _ => False) (hr.make C us []) (I2.env0.make C us []) (hb _ (Value.ref (hp.objs.size + 1) :: us) I2.kIn cnt) r2 want
  refine wpAny_call (BF.call _ _ _ _ _ _ _ _ _ _ _ _ _ _ _ _ _ _ _ _ _ _ _ _ _ _ _ fI (fun Y => PySem.W.excTail_contains Y bm hbm) (I1.kIn _ _ hC) (PySem.W.looks_findIn I1.kIn iC) (fun self => PySem.W.bind_fn I1.kIn self tI) small ?_)
  rw [hG]
  refine codeAny_mono run fun r s' hq' => ?_
  match r, hq' with
  | .error er, hq' => exact hx pins σ _ _ er s' I2 hq'
  | .ok (.ret u), ⟨v, H2, os2, bare2, un2, hok2, rv, ev, d, fs, ea, ed, hd1, q2⟩ =>
    subst ev
    exact ⟨rv, mk_end (raises_own T.exC T.tyC) I1 le kk un2 hok2 os2 bare2 ea ed hd1 q2⟩
end
/-- the class's facts, gathered -/
structure OwnB (K : PySem.W.Frag) (mg : Str → Option Value) (x f : Str) (B newId initId : String) (bmB : List Value) (C fI : Addr) : Prop where
  gC : mg x = some (.ref C)
  ox : OexB K C newId bmB
  no : PySem.W.findIn K (.ref C) f = some none
  iC : PySem.W.findIn K (.ref C) "__init__" = some (some (.ref fI))
  tI : PySem.W.typeIn K (.ref fI) = some (.type "function")
  xf : XfC K C
  gB : mg (Str.ofString B) = none
  vV : PySem.W.findCls K (.type B) (.type "type") "__init__" = some (.val (.builtin initId))
  ex : PySem.W.exmOne K (.ref C) (.ref C) = some true
/-- an own error with one field, its __init__ done -/
structure ErrB (P : Program) (w : World) (K : PySem.W.Frag) (mg : Str → Option Value) (base : Heap) (x f : Str) (B newId initId : String) (bmB : List Value) (C : Addr) : Prop where
  bf : BasF B newId initId bmB
  ex : ∃ (fI : Addr) (fd : FuncData), OwnB K mg x f B newId initId bmB C fI ∧ FnOk P w K mg base CX0 1 fI fd ["self", f] (spInit1 C f) ∧ Binds K fd ["self", f] []
section
variable {X : Cx} {W : WX} {j : Nat} {x f : Str} {B newId initId : String} {bmB : List Value} {C : Addr} {e : Expr} {te : TE} {p p2 pos : Pos}
theorem ps_rzB (T : ErrB X.prog X.w X.K X.mg X.base x f B newId initId bmB C) (hr : Rm j X.A) (hk : 2 ≤ j) (hc : X.calm = true) (tk : Takes X W) (hg : Gl X x) (he : PE X e te)
    (hdb : (x == ("__debug__" : Str)) = false := by decide) (hs : starEach [e] X.env = (false, eval e X.env) :: starEach [] X.env := by rfl) (hpl : (backTo p2 (starEach [] X.env)).any (·.1) = false := by rfl) :
    PS X (.Raise (some (.Call (.Name x p) [e] [] p2)) none pos) (tRz C f te W) := by
  obtain ⟨fI, fd, T1, F1, b⟩ := T.ex
  exact ps_raise (pos := pos) hc tk (pmk_b T.bf (p := p) (pos := p2) (dvs := []) T1.ox T1.iC T1.tI F1 (hr.r.mono hk) b .nil pass0 hg T1.gC (pa_cons he pa_nil (hs := hs)) hdb hs hpl)
end
section
variable {K : PySem.W.Frag} {H : Hp} {Q : VK} {D : Ends} {σ : L2.St} {newId : String} {bmB : List Value} {ta : TA} {te : TE}
theorem rd_bti {v : V} (h : ta σ H fun vs H1 => ∃ (a C : Addr) (ws : List V), vs = .ref a :: ws ∧ ws.length ≤ 1000 ∧ OexB K C newId bmB ∧ H1 a = some (exo a C none) ∧ Q .non H1) : tBtI K newId bmB ta σ H Q := h
theorem rd_ostB {f : Str} {to : TE} (h : te σ H fun y H1 => to σ H1 fun x H2 => ∃ a C : Addr, x = .ref a ∧ OexB K C newId bmB ∧ PySem.W.findIn K (.ref C) f = some none ∧
  H2 a = some (exo a C none) ∧ ∀ dx, H2 dx = none → dx ≠ a → D.nx σ (upd (upd H2 dx (exd dx [(f, y)])) a (exo a C (some dx)))) : tOstB K newId bmB f to te D σ H := h
end
theorem ownB_mk {K : PySem.W.Frag} {mg : Str → Option Value} {x f : Str} {B newId initId : String} {bmB : List Value} {C fI : Addr} {nm q : Str} {N : Addr} {bs bm : List Value} {sn : List Str} {sub : List Value} {ab : Bool} {col : Option Bool} {dd : Option Addr} {m0 m1 m2 m3 m5 : Option Value}
    (gC : mg x = some (.ref C)) (gB : mg (Str.ofString B) = none)
    (xL : K.lookup C = some (excClassObj nm q C N bs bm true sn sub ab col dd m0 m1 m2 m3 m5 newId)) (tl : PySem.W.excTail bmB bm = true)
    (sa : PySem.W.findIn K (.ref C) "__setattr__" = some (some (.builtin "object.__setattr__"))) (ga : PySem.W.findIn K (.ref C) "__getattribute__" = some (some (.builtin "BaseException.__getattribute__"))) (gg : PySem.W.findIn K (.ref C) "__getattr__" = some none) (nb : PySem.W.findIn K (.ref C) f = some none)
    (a1 : PySem.W.findIn K (.ref C) "__init__" = some (some (.ref fI))) (t1 : PySem.W.typeIn K (.ref fI) = some (.type "function"))
    (kC : PySem.W.keepIn K (.ref C) = true) (eC : PySem.W.subIn K (.ref C) (.type "BaseException") = some true) (tC : PySem.W.typeIn K (.ref C) = some (.type "type")) (hC : PySem.W.hasDictIn K C = true) (iC : PySem.W.isClsIn K C = true) (sC : PySem.W.subIn K (.ref C) (.ref C) = some true)
    (vV : PySem.W.findCls K (.type B) (.type "type") "__init__" = some (.val (.builtin initId))) : OwnB K mg x f B newId initId bmB C fI where
  gC := gC
  ox := ⟨⟨nm, q, N, bs, _, sn, sub, ab, col, dd, m0, m1, m2, m3, m5, xL, tl⟩, sa, eC, tC, kC⟩
  no := nb
  iC := a1
  tI := t1
  xf := ⟨ga, gg, eC, hC⟩
  gB := gB
  vV := vV
  ex := exm_sub eC eC iC tC sC
end U

/-! own exceptions over KeyError: made by LookupError's __new__ -/
namespace U
open PySem PySem.Spec PyProof.Rows L2
section
variable {M : Model} {A : Around} {E : Value → Shared → Prop} {h : Heap} {g : Array GenState} {d : Drawn} {t : Nat} {os : OsState}
variable {nm q : Str} {C N : Addr} {bs bm bmN : List Value} {hdct : Bool} {sn : List Str} {sub : List Value} {ab : Bool} {col : Option Bool} {dd : Option Addr} {k0 k1 k2 k3 k5 : Option Value} {NB newId iI : String}
theorem chk_new (F : ExcBaseFacts NB newId iI bmN) (has : bm.contains (.type NB) = true) {us : List Value} {Q : Unit → Shared → Prop} (hC : h.get? C = some (excClassObj nm q C N bs bm hdct sn sub ab col dd k0 k1 k2 k3 k5 newId)) (hq : Q () ⟨h, g, d, t, os⟩) :
    wpAny M A (checkBuiltinCall newId ⟨.ref C :: us, []⟩) Q E ⟨h, g, d, t, os⟩ := by
  have c1 : (Value.ref C :: bm).contains (.type NB) = true := by rw [List.contains_cons, has, Bool.or_true]
  have c2 := F.noStar
  unfold checkBuiltinCall
  simp only [F.newKind, F.newSplit, F.newRow]
  repeat (first | with_reducible refine wpAny_loadPart_at hC ?_ | (with_reducible refine wpAny_isSubtype_exc hC ?_; rw [c1]) | with_reducible refine wpAny_staticBase_exc hC ?_ | with_reducible refine wpAny_madeBy_exc hC ?_ | simp only [bne_self_eq_false, Bool.false_eq_true, if_false] | wp_step)
  exact hq
end
section
variable {P : Program} {w : World} {A : Around} {R : Result → Shared → Prop} {h : Heap} {g : Array GenState} {d : Drawn} {t : Nat} {os : OsState}
variable {nm q : Str} {C N : Addr} {bs bm bmN : List Value} {hdct : Bool} {sn : List Str} {sub : List Value} {ab : Bool} {col : Option Bool} {dd : Option Addr} {k0 k1 k2 k3 k5 : Option Value} {NB newId iI : String}
theorem new_by (F : ExcBaseFacts NB newId iI bmN) (has : bm.contains (.type NB) = true) (noA : bm.contains (.type "AttributeError") = false) (noN : bm.contains (.type "NameError") = false) {us : List Value}
    (hC : h.get? C = some (excClassObj nm q C N bs bm hdct sn sub ab col dd k0 k1 k2 k3 k5 newId)) (small : us.length ≤ sizeLine)
    (hq : R (.ok (.ret (.ref (h.objs.size + 1)))) ⟨(h.push (PySem.W.kdv_tup us)).push (PySem.HandSPX.excO C h.objs.size), g, d, t, os⟩) : codeAny (model P w) A (.builtin newId ⟨.ref C :: us, []⟩) R ⟨h, g, d, t, os⟩ := by
  have c0 := F.ends
  have c1 : (Value.ref C :: bm).contains (.type NB) = true := by rw [List.contains_cons, has, Bool.or_true]
  have c2 : (Value.ref C :: bm).contains (.type "AttributeError") = false := by rw [List.contains_cons, noA]; rfl
  have c3 : (Value.ref C :: bm).contains (.type "NameError") = false := by rw [List.contains_cons, noN]; rfl
  refine codeAny_builtinAt F.entry ?_
  unfold Builtin.«BaseException.__new__»
  refine PySem.wpAt_bind ?_
  show PySem.wpAt _ _ _ (stack >>= _) _ _ _
  refine PySem.wpAt_bind (PySem.wpAt_stack fun below above => ?_)
  refine PySem.wpAt_of_wpAny ?_
  wp_walk
  refine PySem.wpAt_of_wpAny ?_
  rw [F.owner]
  repeat (first | with_reducible refine wpAny_madeHere_exc F.canon hC ?_ | with_reducible refine wpAny_loadPart_at hC ?_ | (with_reducible refine wpAny_isSubtype_exc hC ?_; first | rw [c1] | rw [c2] | rw [c3]) | wp_step)
  show R _ _
  rw [Heap.size_push]
  exact hq
theorem tcall_by {E : Value → Shared → Prop} {Q : Fin → Shared → Prop} (F : ExcBaseFacts NB newId iI bmN) (has : bm.contains (.type NB) = true) (noA : bm.contains (.type "AttributeError") = false) (noN : bm.contains (.type "NameError") = false) {us : List Value} {fI : Addr}
    (hC : h.get? C = some (excClassObj nm q C N bs bm hdct sn sub ab col dd k0 k1 k2 k3 k5 newId)) (hi : PySem.W.Looks (model P w) h (typeLookup (.ref C) "__init__") (some (.ref fI))) (hb : ∀ self, PySem.W.Looks (model P w) h (bindSpecial (.ref fI) self) (.ref fI, [self])) (small : us.length ≤ sizeLine)
    (hq : codeAny (model P w) A (.call (.ref fI) ⟨.ref (h.objs.size + 1) :: us, []⟩) (fun r s' => match r with | .ok (.ret v) => v = .none ∧ Q (.done (.ret (.ref (h.objs.size + 1)))) s' | .ok _ => False | .error e => E e s')
      ⟨(h.push (PySem.W.kdv_tup us)).push (PySem.HandSPX.excO C h.objs.size), g, d, t, os⟩) : wpAny (model P w) A (Builtin.«type.__call__» ⟨.ref C :: us, []⟩) Q E ⟨h, g, d, t, os⟩ := by
  repeat (first | with_reducible refine wpAny_loadPart_at hC ?_ | with_reducible refine wpAny_madeBy_exc hC ?_ | wp_step)
  refine codeAny_call_builtin_code (Code.quiet_builtin _ F.quiet) (chk_new F has hC ?_)
  refine new_by F has noA noN hC small ?_
  show wpAny _ _ _ _ _ _
  generalize hG : (h.push (PySem.W.kdv_tup us)).push (PySem.HandSPX.excO C h.objs.size) = G at hq
  have kk : ∀ b o, h.get? b = some o → G.get? b = some o := fun b o z => by
    rw [← hG]
    exact Heap.get?_push_of_some _ (Heap.get?_push_of_some _ z)
  have at1 : G.get? (h.objs.size + 1) = some (PySem.HandSPX.excO C h.objs.size) := by
    rw [← hG]
    heap_get
  have hC1 := kk _ _ hC
  have own : (Value.ref C :: bm).contains (.ref C) = true := by simp
  have i1 := hi.keeps kk
  have b1 := (hb (.ref (h.objs.size + 1))).keeps kk
  unfold isInstance
  repeat (first | with_reducible refine wpAny_loadPart_at at1 ?_ | (with_reducible refine wpAny_isSubtype_exc hC1 ?_; rw [own]) | wp_step)
  show wpAny _ _ (typeLookup (.ref C) _) _ _ _
  refine i1.at (wpAny_holding (wpAny_bind (b1.at (wpAny_bind (wpAny_call (codeAny_mono hq fun r s' z => ?_))))))
  match r, z with
  | .error e, z => exact z
  | .ok (.ret v), ⟨z1, z2⟩ =>
    subst z1
    first
      | exact wpAny_pure (wpAny_pure z2)
      | (wp_walk; exact z2)
theorem call_by (F : ExcBaseFacts NB newId iI bmN) (has : bm.contains (.type NB) = true) (noA : bm.contains (.type "AttributeError") = false) (noN : bm.contains (.type "NameError") = false) {us : List Value} {fI : Addr}
    (hC : h.get? C = some (excClassObj nm q C N bs bm hdct sn sub ab col dd k0 k1 k2 k3 k5 newId)) (hi : PySem.W.Looks (model P w) h (typeLookup (.ref C) "__init__") (some (.ref fI))) (hb : ∀ self, PySem.W.Looks (model P w) h (bindSpecial (.ref fI) self) (.ref fI, [self])) (small : us.length ≤ sizeLine)
    (hq : codeAny (model P w) (A.under (.builtin "type.__call__" ⟨.ref C :: us, []⟩)) (.call (.ref fI) ⟨.ref (h.objs.size + 1) :: us, []⟩) (PySem.W.InitBack (h.objs.size + 1) R) ⟨(h.push (PySem.W.kdv_tup us)).push (PySem.HandSPX.excO C h.objs.size), g, d, t, os⟩) :
    codeAny (model P w) A (.call (.ref C) ⟨us, []⟩) R ⟨h, g, d, t, os⟩ := by
  have l1 := PySem.tc_lookup
  have l2 := PySem.tc_bind (.ref C)
  have ty : (⟨h, g, d, t, os⟩ : Shared).TypeIs (.ref C) "type" := ⟨_, hC, rfl⟩
  refine codeAny_of_tree ?_
  show wpAny _ _ (callAny (.ref C) _) _ _ _
  repeat (any_goals (first | assumption | with_reducible refine wpAny_loadPart_at hC ?_ | wp_step))
  refine ⟨rfl, codeAny_call_builtin_at (Code.quiet_builtin _ (by decide +kernel)) PySem.entry_typeCall (PySem.wpAny_check_type_call_sub hC (tcall_by F has noA noN hC hi hb small (codeAny_mono hq fun r s' z => ?_)))⟩
  match r, z with
  | .error e, z => exact z
  | .ok (.ret v), z => exact z
end
abbrev bmKE : List Value := [.type "KeyError", .type "LookupError", .type "Exception", .type "BaseException", .type "object"]
theorem ke_split : splitId "KeyError.__init__" = some ("KeyError", "__init__") := by kernel_rfl
theorem ke_kind : builtinKind "KeyError.__init__" = some .slot := by kernel_rfl
theorem ke_row : Manifest.signature? "KeyError.__init__" = some ⟨.positional, "*", "KeyError", .self, [⟨"args", .varPos, false⟩]⟩ := by kernel_rfl
theorem ke_entry : entryFor table "KeyError.__init__" = some Builtin.«BaseException.__init__» := by
  refine entryFor_alias (id' := "BaseException.__init__") ?_ ?_ ?_ ?_
  · rw [fastTable_eq_tree]; kernel_rfl
  · first | rfl | decide +kernel
  · decide +kernel
  · rw [fastTable_eq_tree]; kernel_rfl
theorem init_KE : InitOwn "KeyError.__init__" "LookupError.__new__" bmKE := by
  intro P w A R h g d t os nm q C N bs bm hdct sn sub ab col dd k0 k1 k2 k3 k5 us e t0 hT hC he small hq
  have c1 : (Value.ref C :: bm).contains (.type "KeyError") = true := by rw [List.contains_cons, hT]; rfl
  refine PySem.codeAny_call_builtin (by decide +kernel) ke_entry ?_
  simp only [checkBuiltinCall, ke_kind, ke_split, ke_row]
  repeat (first | (with_reducible refine wpAny_loadPart_at he ?_) | with_reducible refine wpAny_loadPart_at hC ?_ | (with_reducible refine wpAny_isSubtype_exc hC ?_; rw [c1]) | wp_step)
  refine wpAny_onRaise ?_
  rw [show ∀ (a b : String) (n : Nat), Bind.check ⟨.positional, "*", "KeyError", .self, [⟨"args", .varPos, false⟩]⟩ a b n ((({ pos := Value.ref e :: us } : Args).kw).map fun x => x.fst) = pure () from fun a b n => check_star_args _ _ _ _ _ _]
  refine wpAny_pure ?_
  wp_walk
  refine hq _ h.objs.size (fun b o nb hb => ?_) ?_
  · rw [Heap.get?_update_other _ _ (Ne.symm nb)]
    exact Heap.get?_push_of_some _ hb
  · rw [Heap.get?_update_self _ (Heap.get?_push_of_some _ he) rfl] <;> rfl
theorem bas_KE : BasF "KeyError" "LookupError.__new__" "KeyError.__init__" bmKE where
  call := fun P w A R h g d t os nm q C N bs bm hdct sn sub ab col dd k0 k1 k2 k3 k5 us fI h1 h2 h3 h4 h5 h6 => call_by F.excBase_LookupError ((h1 "LookupError").trans rfl) ((h1 "AttributeError").trans rfl) ((h1 "NameError").trans rfl) h2 h3 h4 h5 h6
  init := init_KE
  pass := fun self => by kernel_rfl
  obj := by decide +kernel
  typ := by kernel_rfl
  stub := by decide +kernel
  blt := by kernel_rfl
  nam := by decide +kernel
  dbg := by decide +kernel
  hin := by decide +kernel
  ne := fun z => nomatch z
end U

/-! isinstance of a kept exception, its dict known -/
namespace U
open PySem PySem.Spec PyProof.Rows L2
section
variable {P : Program} {w : World} {A : Around} {E : Value → Shared → Prop} {K : PySem.W.Frag} {x D : Addr} {ox : Obj} {od : Option Obj}
end
end U
namespace U
open PySem PySem.Spec PyProof.Rows L2
theorem kit_ty {K : PySem.W.Frag} {D : Addr} {T : String} {b : Bool} (h1 : PySem.W.kitMeta T = true) (h3 : PySem.W.subIn K (.ref D) (.type T) = some b) : PySem.W.kitOne K (.ref D) (.type T) = some b := by
  unfold PySem.W.kitOne PySem.W.kitCls
  show (if (Value.ref D == Value.type T) = true then some true else if PySem.W.kitMeta T = true then PySem.W.subIn K (.ref D) (.type T) else none) = some b
  rw [if_neg (fun z => nomatch (beq_iff_eq.mp z : Value.ref D = Value.type T)), if_pos h1]
  exact h3
end U

/-! UnknownNode; check_node, neighbors -/
namespace Law
open PySem PySem.Spec PyProof.Rows L2 U


/-- an error with one field f, told to the caller -/
def FldE (f : Str) (C : Addr) (v : V) (H : Hp) (E : XK) : Prop := ∀ (d : Addr) (H' : Hp), Same H H' → H d = none → H' d = some (.xd [(f, v)]) → E (.ref C) (some d) H'
/-- no node -/
def NotN (K : PySem.W.Frag) (H : Hp) (ns : List Str) (x : V) : Prop := (∃ t, TyIs K H x t ∧ isT t .str = false) ∨ ∃ s, x = .str s ∧ s ∉ ns
theorem NotN.same {K : PySem.W.Frag} {H H' : Hp} {ns : List Str} {x : V} (h : NotN K H ns x) (s : Same H H') : NotN K H' ns x := by
  rcases h with ⟨t, h1, h2⟩ | h
  · exact .inl ⟨t, tyx_same h1 s, h2⟩
  · exact .inr h
def spChkN (K : PySem.W.Frag) (C : Addr) : Sp := fun vs H Q E => ∃ (g n e : Addr) (x : V) (ns : List Str) (es : List (Addr × Str × Str)), vs = [.ref g, x] ∧ GrAt H g n e ns es ∧ ((∃ s, x = .str s ∧ s ∈ ns ∧ Q .non H) ∨ (NotN K H ns x ∧ FldE "node" C x H E))
def spNbrs (K : PySem.W.Frag) (C : Addr) : Sp := fun vs H Q E => ∃ (g n e : Addr) (x : V) (ns : List Str) (es : List (Addr × Str × Str)), vs = [.ref g, x] ∧ GrS H g n e ns es ∧
  ((∃ s, x = .str s ∧ s ∈ ns ∧ ∀ (l : Addr) (ys : List Str) (H' : Hp), Same H H' → H l = none → H' l = some (.lst (ys.map V.str)) → ys.Perm (nbrF (es.map (·.2)) s) → (ys.Pairwise fun a b => ¬ sLt b a) → Q (.ref l) H') ∨ (NotN K H ns x ∧ FldE "node" C x H E))
section
variable {P : Program} {w : World} {K : PySem.W.Frag} {mg : Str → Option Value} {base : Heap}
theorem ok_initN {f : Addr} {fd : FuncData} {C : Addr} (F : Fun K "__init__" "UnknownNode.__init__" s_UnknownNode_init f fd) (T : OwnB K mg "UnknownNode" "node" "KeyError" "LookupError.__new__" "KeyError.__init__" bmKE C f) : FnOk P w K mg base CX0 1 f fd ["self", "node"] (spInit1 C "node") := by
  refine F.ok sc_UnknownNode_init (fun vs H Q E h => ?_) (fun cdv A outer s H vs Q E hr h => ?_)
  · obtain ⟨a, v, rfl, _⟩ := h
    rfl
  · obtain ⟨a, v, rfl, ha, q⟩ := h
    refine ⟨_, pss_cons (ps_expr (pe_btinit bas_KE rfl T.gB T.vV (pa_cons (pv 0) (pa_cons pe_str pa_nil)))) (pss_one (ps_ostB bas_KE (pv 0) (pv 1))), ?_⟩
    wtm_at "rd"
    refine rd_bti (v := v) ?_
    wtm_at "rd"
    refine ⟨a, C, _, rfl, by decide, T.ox, ha, ?_⟩
    dsimp only
    refine rd_ostB ?_
    wtm_at "rd"
    exact ⟨a, C, rfl, T.ox, T.no, ha, fun dx n1 n2 => q dx n1 n2⟩
structure UNc (P : Program) (w : World) (K : PySem.W.Frag) (mg : Str → Option Value) (base : Heap) : Prop where
  has_node : Cal P w K mg base CX0 1 "has_node" (spHasV K)
theorem ok_chkN {f : Addr} {fd : FuncData} {CE : Addr} (F : Fun K "check_node" "check_node" s_check_node f fd) (B : Bt mg) (C : UNc P w K mg base) (T : ErrB P w K mg base "UnknownNode" "node" "KeyError" "LookupError.__new__" "KeyError.__init__" bmKE CE) : FnG P w K mg base (L2.CX P w) 3 f fd ["graph", "candidate"] (spChkN K CE) := by
  refine fnG F sc_check_node (fun vs H Q E h => ?_) (fun cdv A outer s H vs Q E hr h => ?_)
  · obtain ⟨g, n, e, x, ns, es, rfl, _⟩ := h
    rfl
  · obtain ⟨g, n, e, x, ns, es, rfl, gs, alt⟩ := h
    have nd := sc_check_node.nd
    have hu := hr.u1
    refine ⟨_, (pss_one (ps_if (pt_not (pt_val (pe_c C.has_node hr (by decide) rfl (pa_cons (pv 0) (pa_cons (pv 1) pa_nil))))) (pss_one (ps_rzB T hr (by decide) rfl (takes_of rfl rfl rfl rfl) rfl (pv 1))) pss_nil)), ?_⟩
    wtm_at "rd"
    rcases alt with ⟨s, rfl, hs, q⟩ | ⟨nn, er⟩
    · refine ⟨g, n, e, _, .str, ns, es, rfl, gs, .inr ⟨s, rfl, ?_⟩⟩
      rw [decide_eq_true hs]
      wtm_at "rd"
      exact q
    · rcases nn with ⟨t, h1, h2⟩ | ⟨s, rfl, hs⟩
      · refine ⟨g, n, e, x, t, ns, es, rfl, gs, .inl ⟨h1, h2, ?_⟩⟩
        wtm_at "rd"
        refine rd_rz ?_
        wtm_at "rd"
        exact rd_mk1 fun dd H' s' nd' hd => er dd H' s' nd' hd
      · refine ⟨g, n, e, _, .str, ns, es, rfl, gs, .inr ⟨s, rfl, ?_⟩⟩
        rw [decide_eq_false hs]
        wtm_at "rd"
        refine rd_rz ?_
        wtm_at "rd"
        exact rd_mk1 fun dd H' s' nd' hd => er dd H' s' nd' hd
structure UNn (P : Program) (w : World) (K : PySem.W.Frag) (mg : Str → Option Value) (base : Heap) (CE : Addr) : Prop where
  check_node : Cal P w K mg base (L2.CX P w) 3 "check_node" (spChkN K CE)
  adjacency : Cal P w K mg base CX0 1 "adjacency" spAdjF
theorem ok_nbrs {f : Addr} {fd : FuncData} {CE : Addr} (F : Fun K "neighbors" "neighbors" s_neighbors f fd) (B : Bt mg) (C : UNn P w K mg base CE) : FnG P w K mg base (L2.CX P w) 4 f fd ["graph", "node"] (spNbrs K CE) := by
  refine fnG F sc_neighbors (fun vs H Q E h => ?_) (fun cdv A outer s H vs Q E hr h => ?_)
  · obtain ⟨g, n, e, x, ns, es, rfl, _⟩ := h
    rfl
  · obtain ⟨g, n, e, x, ns, es, rfl, gs, alt⟩ := h
    have nd := sc_neighbors.nd
    have hu := hr.u1
    refine ⟨_, (pss_cons (ps_expr (pe_cX C.check_node hr (by decide) rfl (takes_of rfl rfl rfl rfl) (pa_cons (pv 0) (pa_cons (pv 1) pa_nil))))
  (pss_one (ps_ret (pe_dget hu (pe_c C.adjacency hr (by decide) rfl (pa_cons (pv 0) pa_nil)) (pv 1) (fun _ _ => rfl))))), ?_⟩
    wtm_at "rd"
    rcases alt with ⟨s, rfl, hs, q⟩ | ⟨nn, er⟩
    · refine ⟨g, n, e, _, ns, es, rfl, gs.gr, .inl ⟨s, rfl, hs, ?_⟩⟩
      wtm_at "rd"
      refine ⟨g, n, e, ns, es, rfl, gs, fun d Ad H1 s1 _ had fre => ?_⟩
      wtm_at "rd"
      refine rd_dat (.inl had.di) (kvG_val hs) rfl ?_
      obtain ⟨ys, h1, h2, h3⟩ := had.li s hs
      exact q _ ys H1 s1 (fre s hs) h1 h2 h3
    · exact ⟨g, n, e, x, ns, es, rfl, gs.gr, .inr ⟨nn, fun d H' s' nd' hd => er d H' s' nd' hd⟩⟩
end
end Law

/-! a text is no dict -/
namespace Law
open PySem PySem.Spec PyProof.Rows L2 U SeqAt
theorem str_eq_declines_dict (b : Str) (u : Tok) (l : Addr) (es : Array DictEntry) (n : Nat) (dd : Option Addr) (sl : Array (Option Value)) :
    Meets (Builtin.«str.__eq__» ⟨[.str b u, .ref l], []⟩) (fun _ R s => s.heap.get? l = some { cls := .type "dict", dict := dd, data := .dict es n, slots := sl } ∧ R (.ok (.ret .notImplemented)) s) :=
  .of_wp fun prog w A R s h => by obtain ⟨hp, g, d, tk, os⟩ := s; obtain ⟨hl, h⟩ := h; wp_walk using AutoSeq1.wpAny_loadPart' hl, wpAny_load hl; exact ⟨_, rfl, h⟩
theorem dict_eq_declines_str (b : Str) (u : Tok) (l : Addr) (es : Array DictEntry) (n : Nat) (dd : Option Addr) (sl : Array (Option Value)) :
    Meets (Builtin.«dict.__eq__» ⟨[.ref l, .str b u], []⟩) (fun _ R s => s.heap.get? l = some { cls := .type "dict", dict := dd, data := .dict es n, slots := sl } ∧ R (.ok (.ret .notImplemented)) s) :=
  .of_wp fun prog w A R s h => by obtain ⟨hp, g, d, tk, os⟩ := s; obtain ⟨hl, h⟩ := h; have f1 := F.sub_str_dict; wp_walk using AutoSeq1.wpAny_loadPart' hl, wpAny_load hl; exact ⟨_, rfl, h⟩
theorem rcAt_str_dict {A : Around} {s : Shared} {l : Addr} {o : Obj} {es : Array DictEntry} {n : Nat} (b : Str) (u : Tok) (ho : s.heap.get? l = some o) (hc : o.cls = .type "dict") (hd : o.data = .dict es n) (hu : A.units < cLine) : RcAt A s (.str b u) (.ref l) false := fun prog w E Q h => by
  obtain ⟨cls, dd, data, sl⟩ := o
  simp only at hc hd
  subst hc hd
  exact rc_eq_decline_or (k := false) (typeIs_str s b u) ⟨_, ho, rfl⟩ (by decide) F.sub_dict_str F.slot_str_eq F.slot_dict_eq_refl
    (fun _ hq => call_meets F.slot_str_eq (typeIs_str s b u) F.entry_str_eq (F.args_str_eq_2 _ _) (str_eq_declines_dict b u l es n dd sl) ⟨ho, hq⟩)
    (fun _ hq => call_meets F.slot_dict_eq_refl ⟨_, ho, rfl⟩ F.entry_dict_eq (F.args_dict_eq_2 _ _) (dict_eq_declines_str b u l es n dd sl) ⟨ho, hq⟩)
    (fun _ hq => wpAny_of_eq (rfl : isSame (.str b u) (.ref l) = pure false) hq) (.inr hu) h
theorem eqAt_str_dict {A : Around} {s : Shared} {l : Addr} {o : Obj} {es : Array DictEntry} {n : Nat} (b : Str) (u : Tok) (ho : s.heap.get? l = some o) (hc : o.cls = .type "dict") (hd : o.data = .dict es n) (hu : A.units < cLine) : EqAt A s (.str b u) (.ref l) false := fun prog w E Q h => by
  unfold eqBool
  refine wpAny_holding ?_
  refine wpAny_ite_split (fun hab => absurd (eq_of_beq hab) nofun) (fun _ => ?_)
  exact wpAny_bind (rcAt_str_dict b u ho hc hd hu prog w E _ (wpAny_truthy_bool h))
end Law

/-! a Team's methods as they raise: UnknownWorker, UnknownNode (k87) -/
namespace Law
open PySem PySem.Spec PyProof.Rows L2 U LamX


local macro_rules | `(tactic| wtm_at "rd1") => `(tactic| first | with_reducible refine rd_fld ?_ | with_reducible refine rd_mG ?_ | with_reducible refine rd_mGX ?_ | with_reducible refine rd_sFld ?_ | with_reducible refine rd_sAug ?_ | with_reducible refine rd_gFld ?_)
/-- no known worker -/
def NotW (K : PySem.W.Frag) (H : Hp) (kws : List Str) (x : V) : Prop := (∃ d, Dp K H x d ∧ SeqAt.shaped d = true ∧ ∀ w ∈ kws, PyData.eqv (.str w) d = false) ∨ ∃ a, x = .ref a ∧ H a = some (.dK [])
theorem NotW.same {K : PySem.W.Frag} {H H' : Hp} {kws : List Str} {x : V} (h : NotW K H kws x) (s : Same H H') : NotW K H' kws x := by
  rcases h with ⟨d, hd, sd, ne⟩ | ⟨a, rfl, ha⟩
  · exact .inl ⟨d, Dp.same hd s, sd, ne⟩
  · exact .inr ⟨a, rfl, s _ _ ha⟩
def rNotInW (K : PySem.W.Frag) : R2 := fun x y H Q => rNotInD K x y H Q ∨ ∃ (a q : Addr) (ws : List Str), x = .ref a ∧ H a = some (.dK []) ∧ y = .ref q ∧ SqL K H q (ws.map V.str) ∧ Q (.bl true) H
theorem readsAll_str {h : Heap} : ∀ {ws : List Str} {vs : List Value} {as : List Addr}, ReadsAll h vs (ws.map PyData.str) as → ∀ y ∈ vs, ∃ b t, y = .str b t
  | [], vs, as, r, y, hy => by
    cases r
    cases hy
  | w :: ws, vs, as, r, y, hy => by
    cases r with
    | cons r1 r2 =>
      rcases List.mem_cons.mp hy with rfl | hy
      · cases r1
        exact ⟨_, _, rfl⟩
      · exact readsAll_str r2 y hy
theorem dp_strs {K : PySem.W.Frag} {H : Hp} : ∀ xs : List Str, DpAll K H (xs.map V.str) (xs.map PyData.str)
  | [] => .nil
  | x :: r => .cons (.str x) (dp_strs r)
theorem kNinW {X : Cx} (K : PySem.W.Frag) (hK : X.K = K) (hu : X.A.units + 65 < cLine) : OpR X (compareOp .NotIn) (rNotInW K) := by
  subst hK
  intro pins s σ H x y v u Q I rx ry h
  rcases h with h | ⟨a, q, ws, rfl, ha, rfl, hq, q0⟩
  · exact op_notInD hu pins s σ H x y v u Q I rx ry h
  · obtain ⟨as, ra, _⟩ := (Di.dct (K := X.K) (ns := []) (f := fun _ => 0) ha).reads I rfl
    obtain ⟨bs, rb⟩ := Dp.reads I _ _ _ (.lst hq (dp_strs ws)) ry
    cases rx
    cases ra with
    | dict d1 d2 d3 d4 d5 =>
      cases rb with
      | list h1 h2 h3 h4 =>
        refine SeqAt.notIn_listAt (fun _ => false) ⟨_, h1, h2, _, h3⟩ (fun y hy => ?_) ?_
        · obtain ⟨b, t, rfl⟩ := readsAll_str h4 y (by simpa using hy)
          exact eqAt_str_dict b t d1 d2 d3 (by show X.A.units + 1 < cLine; omega)
        · rw [show ∀ items : Array Value, (!items.any fun _ => false) = true from fun items => by simp]
          exact ⟨.bl true, H, I, rfl, q0⟩
theorem shaped_strs {xs : List Str} (ok : ∀ x ∈ xs, PyData.strOk x = true) : SeqAt.shaped (.list (xs.map PyData.str)) = true := by
  have c : ∀ xs : List Str, (∀ x ∈ xs, PyData.strOk x = true) → PyData.canLayAll0 (xs.map PyData.str) = true ∧ PyData.depthAll (xs.map PyData.str) = 0 := by
    intro xs
    induction xs with
    | nil => exact fun _ => ⟨by simp [PyData.canLayAll0], by simp [PyData.depthAll]⟩
    | cons x r ih =>
      intro h
      obtain ⟨a, b⟩ := ih fun y hy => h y (List.mem_cons_of_mem _ hy)
      have := h x List.mem_cons_self
      simp [PyData.canLayAll0, PyData.canLay0, PyData.depthAll, PyData.depth, a, b, this]
  unfold SeqAt.shaped
  rw [PyData.canLay0, (c xs ok).1, PyData.depth, (c xs ok).2]
  rfl
theorem rd_ninW {K : PySem.W.Frag} {H : Hp} {Q : VK} {p : Addr} {x : V} {kws : List Str} (hs : SqL K H p (kws.map V.str)) (ok : ∀ w ∈ kws, PyData.strOk w = true) (n : NotW K H kws x) (h : Q (.bl true) H) : rNotInW K x (.ref p) H Q := by
  rcases n with ⟨d, hd, sd, ne⟩ | ⟨a, rfl, ha⟩
  · refine .inl ⟨d, _, hd, .lst hs (dp_strs kws), sd, shaped_strs ok, ?_⟩
    rw [show ((kws.map PyData.str).any fun z => PyData.eqv z d) = false from by
      rw [List.any_eq_false]
      intro z hz
      obtain ⟨w, hw, rfl⟩ := List.mem_map.mp hz
      rw [ne w hw]
      exact Bool.false_ne_true]
    exact h
  · exact .inr ⟨a, p, kws, rfl, ha, rfl, hs, h⟩
theorem rd_ninWy {K : PySem.W.Frag} {H : Hp} {Q : VK} {p : Addr} {w : Str} {kws : List Str} (hs : SqL K H p (kws.map V.str)) (ok : ∀ w ∈ kws, PyData.strOk w = true) (n : w ∈ kws) (h : Q (.bl false) H) : rNotInW K (.str w) (.ref p) H Q := by
  refine .inl ⟨.str w, _, .str w, .lst hs (dp_strs kws), by unfold SeqAt.shaped; simp [PyData.canLay0, PyData.depth, ok w n], shaped_strs ok, ?_⟩
  rw [show ((kws.map PyData.str).any fun z => PyData.eqv z (.str w)) = true from List.any_eq_true.mpr ⟨_, List.mem_map_of_mem n, by simp [PyData.eqv]⟩]
  exact h
def spTmCwX (K : PySem.W.Frag) (C CE : Addr) : Sp := fun vs H Q E => ∃ (m : Tm) (x : V), vs = [.ref m.t, x] ∧ TmAt C H m ∧ (∀ w ∈ m.kws, PyData.strOk w = true) ∧ ((∃ w, x = .str w ∧ w ∈ m.kws ∧ Q .non H) ∨ (NotW K H m.kws x ∧ FldE "worker" CE x H E))
def spTmAvX (K : PySem.W.Frag) (C CE : Addr) : Sp := fun vs H Q E => ∃ (m : Tm) (x : V) (n e : Addr) (ns pn : List Str) (es : List (Addr × Str × Str)), vs = [.ref m.t, x] ∧ TmAt C H m ∧ (∀ w ∈ m.kws, PyData.strOk w = true) ∧ ((∃ w, x = .str w ∧ w ∈ m.kws ∧ GSt H m.g n e m.cu ns m.ord es m.f ∧ m.lo = ns ∧ SqT K H m.ps (pn.map V.str) ∧
  ∀ (l : Addr) (ms : List (Addr × Str × Int)) (H' : Hp), Same H H' → H l = none → H' l = some (.lst (ms.map fun m => V.ref m.1)) → TupsAt H' ms → ms.map (·.2) = (progF ns (es.map (·.2)) m.f m.h pn).filter (fun y => decide (y.1 ∈ m.oks ∧ m.own y.1 = w)) → Q (.ref l) H') ∨ (NotW K H m.kws x ∧ FldE "worker" CE x H E))
def spTmWf (K : PySem.W.Frag) (C CN : Addr) : Sp := fun vs H Q E => ∃ (m : Tm) (x : V) (n e : Addr) (ns : List Str) (es : List (Addr × Str × Str)), vs = [.ref m.t, x] ∧ TmAt C H m ∧ GSt H m.g n e m.cu ns m.ord es m.f ∧ m.lo = ns ∧ ((∃ s, x = .str s ∧ s ∈ ns ∧
  ∀ (l : Addr) (H' : Hp), Same H H' → H l = none → H' l = some (.lst ((if m.h s = 0 then [] else (nbS (es.map (·.2)) s).filter fun o => decide (slp m.f s o = if 0 < m.h s then -1 else 1)).map V.str)) → Q (.ref l) H') ∨ (NotN K H ns x ∧ FldE "node" CN x H E))
/-- no name -/
def NotNm (K : PySem.W.Frag) (H : Hp) (x : V) : Prop := (∃ t, TyIs K H x t ∧ isT t .str = false) ∨ ∃ s, x = .str s ∧ (s.length = 0 ∨ (8 < s.length ∧ s.length ≤ 1000))
theorem NotNm.same {K : PySem.W.Frag} {H H' : Hp} {x : V} (h : NotNm K H x) (s : Same H H') : NotNm K H' x := by
  rcases h with ⟨t, h1, h2⟩ | h
  · exact .inl ⟨t, tyx_same h1 s, h2⟩
  · exact .inr h
def spIsNdV (K : PySem.W.Frag) : Sp := fun vs H Q _ => ∃ x : V, vs = [x] ∧ ((∃ s, x = .str s ∧ IsName s ∧ ∀ H' : Hp, Same H H' → Q (.bl true) H') ∨ (NotNm K H x ∧ Q (.bl false) H))
def spTmAsX (K : PySem.W.Frag) (C CW CN : Addr) : Sp := fun vs H Q E => ∃ (m : Tm) (x y : V) (ys : List V) (nl n e : Addr) (ns : List Str) (es : List (Addr × Str × Str)), vs = [.ref m.t, x, .ref nl] ∧ TmAt C H m ∧ GrAt H m.g n e ns es ∧ H nl = some (.lst (y :: ys)) ∧
  ((NotNm K H x ∧ FldE "worker" CW x H E) ∨ (∃ s, x = .str s ∧ IsName s ∧ NotN K H ns y ∧ FldE "node" CN y H E))
section
variable {P : Program} {w : World} {K : PySem.W.Frag} {mg : Str → Option Value} {base : Heap}
theorem ok_initW {f : Addr} {fd : FuncData} {C : Addr} (F : Fun K "__init__" "UnknownWorker.__init__" s_UnknownWorker_init f fd) (T : OwnB K mg "UnknownWorker" "worker" "KeyError" "LookupError.__new__" "KeyError.__init__" bmKE C f) : FnOk P w K mg base CX0 1 f fd ["self", "worker"] (spInit1 C "worker") := by
  refine F.ok sc_UnknownWorker_init (fun vs H Q E h => ?_) (fun cdv A outer s H vs Q E hr h => ?_)
  · obtain ⟨a, v, rfl, _⟩ := h
    rfl
  · obtain ⟨a, v, rfl, ha, q⟩ := h
    refine ⟨_, pss_cons (ps_expr (pe_btinit bas_KE rfl T.gB T.vV (pa_cons (pv 0) (pa_cons pe_str pa_nil)))) (pss_one (ps_ostB bas_KE (pv 0) (pv 1))), ?_⟩
    wtm_at "rd"
    refine rd_bti (v := v) ?_
    wtm_at "rd"
    refine ⟨a, C, _, rfl, by decide, T.ox, ha, ?_⟩
    dsimp only
    refine rd_ostB ?_
    wtm_at "rd"
    exact ⟨a, C, rfl, T.ox, T.no, ha, fun dx n1 n2 => q dx n1 n2⟩
theorem ok_tmCwX {f Cl CE : Addr} {fd : FuncData} (F : Fun K "check_worker" "Team.check_worker" s_Team_check_worker f fd) (B : Bt mg) (T : TmC K Cl) (U : ErrB P w K mg base "UnknownWorker" "worker" "KeyError" "LookupError.__new__" "KeyError.__init__" bmKE CE) : FnG P w K mg base (L2.CX P w) 3 f fd ["self", "worker"] (spTmCwX K Cl CE) := by
  refine fnG F sc_Team_check_worker (fun vs H Q E h => ?_) (fun cdv A outer s H vs Q E hr h => ?_)
  · obtain ⟨m, w, rfl, _⟩ := h
    rfl
  · obtain ⟨m, x, rfl, a, ok, alt⟩ := h
    have nd := sc_Team_check_worker.nd
    have hu := hr.u1
    have hu65 : (A.deeper (envOfC "Team.check_worker" (defScope s_Team_check_worker) s.heap.objs.size f cdv)).units + 65 < cLine := by
      have := hr.u100
      omega
    refine ⟨_, (pss_one (ps_if (pt_cmpR (kNinW K rfl hu65) (pv 1) (kFld K rfl (pv 0) rfl) rfl) (pss_one (ps_rzB U hr (by decide) rfl (takes_of rfl rfl rfl rfl) rfl (pv 1))) pss_nil)), ?_⟩
    wtm_at "rd"
    refine m.get_known_workers T a.ins ?_
    rcases alt with ⟨w, rfl, wk, q⟩ | ⟨nw, er⟩
    · refine rd_ninWy (SqL.of a.kw) ok wk ?_
      wtm_at "rd"
      exact q
    · refine rd_ninW (SqL.of a.kw) ok nw ?_
      wtm_at "rd"
      refine rd_rz ?_
      wtm_at "rd"
      exact rd_mk1 fun dd H' s' nd' hd => er dd H' s' nd' hd
structure TWa (P : Program) (w : World) (K : PySem.W.Frag) (mg : Str → Option Value) (base : Heap) (C CE : Addr) : Prop where
  cw : CalM P w K mg base (L2.CX P w) 3 C "check_worker" (spTmCwX K C CE)
  progress_moves : CalK P w K mg base CX0 4 "progress_moves" 3 ["pinned"] (spProg K)
theorem ok_tmAvX {f Cl CE : Addr} {fd : FuncData} (F : Fun K "available" "Team.available" s_Team_available f fd) (B : Bt mg) (T : TmC K Cl) (D : TWa P w K mg base Cl CE) : FnG P w K mg base (L2.CX P w) 5 f fd ["self", "worker"] (spTmAvX K Cl CE) := by
  have C := D
  refine fnG F sc_Team_available (fun vs H Q E h => ?_) (fun cdv A outer s H vs Q E hr h => ?_)
  · obtain ⟨m, x, n, e, ns, pn, es, rfl, _⟩ := h
    rfl
  · obtain ⟨m, x, n, e, ns, pn, es, rfl, a, ok, alt⟩ := h
    have nd := sc_Team_available.nd
    have hu := hr.u1
    refine ⟨_, (pss_cons (ps_expr (pe_mGX C.cw T.cl hr (by decide) (takes_of rfl rfl rfl rfl) (pv 0) (pa_cons (pv 1) pa_nil)))
  (pss_cons (ps_set (i := 2) nd rfl (by first | exact Or.inl rfl | exact Or.inr rfl) (pe_cK C.progress_moves hr (by decide) rfl pass0 (pa_cons (kFld K rfl (pv 0) rfl) (pa_cons (kFld K rfl (pv 0) rfl) (pa_cons (kFld K rfl (pv 0) rfl) pa_nil))) (pk_cons (kFld K rfl (pv 0) rfl) pk_nil)))
  (pss_one (ps_ret (pe_lc (own := [("move", 3)]) rfl nd (ki_list K rfl (pv 2)) (blkOk_by (own := [("move", 3)]) (N := nN_Team_available) (sc := defScope s_Team_available) (by decide +kernel)) (fun _ _ _ _ _ => (pg_name (i := 3) nd rfl (by first | exact Or.inl rfl | exact Or.inr rfl))) (fun _ _ _ _ _ => (pts_one (pt_cmpR (kEq K rfl hr.u64) (pe_dget1 hu (kFld K rfl (pv 0) rfl) (pe_ix (kIx K rfl) (pv 3) pe_int (fun _ _ => rfl)) ⟨rfl, rfl, rfl, rfl⟩) (pv 1) (nomark _)))) (fun _ _ _ _ _ => (pv 3))))))), ?_⟩
    wtm_at "rd"
    refine m.call_check_worker a.ins ?_
    wtm_at "rd"
    rcases alt with ⟨w, rfl, wk, gs, lo, hps, q⟩ | ⟨nw, er⟩
    rotate_left
    · exact ⟨m, x, rfl, a, ok, .inr ⟨nw, fun d H' s' nd' hd => er d H' s' nd' hd⟩⟩
    refine ⟨m, _, rfl, a, ok, .inl ⟨w, rfl, wk, ?_⟩⟩
    have l2 := gs.l2
    subst lo
    wtm_at "rd"
    refine m.get_own_graph T a.ins ?_
    wtm_at "rd"
    refine m.get_current T a.ins ?_
    wtm_at "rd"
    refine m.get_rest T a.ins ?_
    wtm_at "rd"
    refine m.get_own_pins T a.ins ?_
    wtm_at "rd"
    refine ⟨m.g, n, e, m.cu, m.re, m.ps, m.lo, m.ord, pn, es, m.f, m.h, rfl, gs, a.re, hps, fun l ms H1 s1 fl hl tm em => ?_⟩
    have a1 := a.same s1
    have ml : ms.length ≤ m.lo.length := by
      have := (pm_nodup (es := es.map (·.2)) (f := m.f) (h := m.h) (pn := pn) gs.nd)
      rw [← prog_eq gs.eok (fun y hy => hy), ← em] at this
      have := nodup_len this.1 this.2
      rw [List.length_map, List.length_map] at this
      exact this
    wtm_at "rd"
    refine ⟨l, rfl, ⟨_, SqL.of hl⟩, ?_⟩
    intro D fD
    refine lcL (K := K) (xs := ms.map fun y => V.ref y.1) (fun i H' => Same H1 H' ∧ H' D = some (.lst (((ms.take i).filter fun y => decide (y.2.1 ∈ m.oks ∧ m.own y.2.1 = w)).map fun y => V.ref y.1))) ⟨Same.new fD, upd_same⟩ ?_ ?_ ?_
    · rintro i H' hi ⟨s, _⟩
      exact SqL.of (s _ _ hl)
    · rintro i y H' hy ⟨s, hD⟩
      obtain ⟨hi, rfl⟩ := map_at hy
      have ht := s _ _ (tm _ (List.getElem_mem hi))
      have tk := take_snoc hi
      have lt : ((ms.take i).filter fun y => decide (y.2.1 ∈ m.oks ∧ m.own y.2.1 = w)).length ≤ 1000 := Nat.le_trans (List.length_filter_le _ _) (by rw [List.length_take]; omega)
      rw [tk, List.filter_append, List.map_append]
      generalize ms[i] = y at *
      have a2 := a1.same s
      wtm_at "rd"
      refine rd_dget1 ?_
      wtm_at "rd"
      refine m.get_owners T a2.ins ?_
      refine ⟨_, rfl, .inl ⟨_, .inl a2.ow⟩, ?_⟩
      wtm_at "rd"
      refine rd_ixT (SqT.of ht) (v := .str y.2.1) rfl ?_
      refine ⟨_, .inl ⟨_, .inr y.2.1, .inl a2.ow, rfl, rfl⟩, ?_⟩
      by_cases ho : y.2.1 ∈ m.oks
      · rw [kvG_val ho]
        simp only [Option.getD_some]
        wtm_at "rd"
        refine rd_split (fun c => ?_) (fun c => ?_)
        · rw [List.filter_cons, if_pos (decide_eq_true ⟨ho, c⟩)]
          wtm_at "rd"
          refine rd_acc hD (by rw [List.length_map]; omega) ?_
          exact ⟨same_put s fD, upd_same⟩
        · rw [List.filter_cons, if_neg (by rw [decide_eq_false fun z => c z.2]; exact Bool.false_ne_true)]
          exact ⟨s, hD.trans (by rw [List.filter_nil, List.map_nil, List.append_nil])⟩
      · rw [kvG_none ho]
        simp only [Option.getD_none]
        wtm_at "rd"
        refine rd_eqNS ?_
        wtm_at "rd"
        rw [List.filter_cons, if_neg (by rw [decide_eq_false fun z => ho z.1]; exact Bool.false_ne_true)]
        exact ⟨s, hD.trans (by rw [List.filter_nil, List.map_nil, List.append_nil])⟩
    rintro H2 ⟨s2, hD⟩
    rw [List.length_map, List.take_length] at hD
    refine q D _ H2 (s1.trans s2) (new_of_same s1 fD) hD (fun y hy => s2 _ _ (tm y (List.mem_filter.mp hy).1)) ?_
    rw [← em, List.filter_map]
    rfl
structure TWb (P : Program) (w : World) (K : PySem.W.Frag) (mg : Str → Option Value) (base : Heap) (CN : Addr) : Prop where
  check_node : Cal P w K mg base (L2.CX P w) 3 "check_node" (spChkN K CN)
  neighbors : Cal P w K mg base (L2.CX P w) 4 "neighbors" (spNbrs K CN)
  slope : Cal P w K mg base CX0 1 "slope" spSlope
  gUP : ∃ u, mg "UP" = some u ∧ RelV (.int 1) u
  gDOWN : ∃ u, mg "DOWN" = some u ∧ RelV (.int (-1)) u
theorem ok_tmWf {f Cl CN : Addr} {fd : FuncData} (F : Fun K "waits_for" "Team.waits_for" s_Team_waits_for f fd) (B : Bt mg) (T : TmC K Cl) (D : TWb P w K mg base CN) : FnG P w K mg base (L2.CX P w) 5 f fd ["self", "node"] (spTmWf K Cl CN) := by
  have C := D
  refine fnG F sc_Team_waits_for (fun vs H Q E h => ?_) (fun cdv A outer s H vs Q E hr h => ?_)
  · obtain ⟨m, x, n, e, ns, es, rfl, _⟩ := h
    rfl
  · obtain ⟨m, x, n, e, ns, es, rfl, a, gs, lo, alt⟩ := h
    have nd := sc_Team_waits_for.nd
    have hu := hr.u1
    refine ⟨_, (pss_cons (ps_expr (pe_cX C.check_node hr (by decide) rfl (takes_of rfl rfl rfl rfl) (pa_cons (kFld K rfl (pv 0) rfl) (pa_cons (pv 1) pa_nil))))
  (pss_cons (ps_if (pt_cmpR (kEq K rfl hr.u64) (pe_dget hu (kFld K rfl (pv 0) rfl) (pv 1) (fun _ _ => rfl)) pe_int (nomark _)) (pss_one (ps_ret (pe_lst pa_nil))) pss_nil)
  (pss_cons (ps_set (i := 2) nd rfl (by first | exact Or.inl rfl | exact Or.inr rfl) (pe_ifExp (pt_cmpR uGt (pe_dget hu (kFld K rfl (pv 0) rfl) (pv 1) (fun _ _ => rfl)) pe_int (nomark _)) (pe_gl rfl C.gDOWN) (pe_gl rfl C.gUP)))
  (pss_one (ps_ret (pe_lc (own := [("other", 3)]) rfl nd (ki_list K rfl (pe_cX C.neighbors hr (by decide) rfl (takes_of rfl rfl rfl rfl) (pa_cons (kFld K rfl (pv 0) rfl) (pa_cons (pv 1) pa_nil)))) (blkOk_by (own := [("other", 3)]) (N := nN_Team_waits_for) (sc := defScope s_Team_waits_for) (by decide +kernel)) (fun _ _ _ _ _ => (pg_name (i := 3) nd rfl (by first | exact Or.inl rfl | exact Or.inr rfl))) (fun _ _ _ _ _ => (pts_one (pt_cmpR (kEq K rfl hr.u64) (pe_c C.slope hr (by decide) rfl (pa_cons (kFld K rfl (pv 0) rfl) (pa_cons (pv 1) (pa_cons (pv 3) pa_nil)))) (pv 2) (nomark _)))) (fun _ _ _ _ _ => (pv 3)))))))), ?_⟩
    wtm_at "rd"
    refine m.get_own_graph T a.ins ?_
    wtm_at "rd"
    rcases alt with ⟨s, rfl, hs, q⟩ | ⟨nn, er⟩
    rotate_left
    · exact ⟨m.g, n, e, x, ns, es, rfl, gs.gr, .inr ⟨nn, fun d H' s' nd' hd => er d H' s' nd' hd⟩⟩
    refine ⟨m.g, n, e, _, ns, es, rfl, gs.gr, .inl ⟨s, rfl, hs, ?_⟩⟩
    wtm_at "rd"
    refine m.get_rest T a.ins ?_
    wtm_at "rd"
    have hlo : s ∈ m.lo := by rw [lo]; exact hs
    refine rd_dat (.inl a.re) (kvF_val hlo) rfl ?_
    wtm_at "rd"
    refine rd_split (fun z => ?_) (fun z => ?_)
    · wtm_at "rd"
      intro l fl
      refine q l _ (Same.new fl) fl ?_
      rw [if_pos z]
      exact upd_same
    rw [if_neg z] at q
    wtm_at "rd"
    refine m.get_rest T a.ins ?_
    wtm_at "rd"
    refine rd_dat (.inl a.re) (kvF_val hlo) rfl ?_
    wtm_at "rd"
    refine rd_split (fun c => ?_) (fun c => ?_)
    · rw [if_pos c] at q
      wtm_at "rd"
      refine m.get_own_graph T a.ins ?_
      wtm_at "rd"
      refine ⟨m.g, n, e, _, ns, es, rfl, gs.grs, .inl ⟨s, rfl, hs, fun l zs H1 s1 fl hl pm srt => ?_⟩⟩
      obtain rfl := nbS_of gs.ok pm srt
      have a1 := a.same s1
      have zin : ∀ y ∈ nbS (es.map (·.2)) s, y ∈ ns := fun y hy => by
        rcases mem_nbrF.mp (pm.mem_iff.mp hy) with h | h
        · exact (gs.ok.mem _ h).2
        · exact (gs.ok.mem _ h).1
      have zl : (nbS (es.map (·.2)) s).length ≤ 2000 := by
        rw [pm.length_eq]
        have := nbrF_len (x := s) (es := es.map (·.2))
        have := gs.l3
        rw [List.length_map] at *
        omega
      generalize nbS (es.map (·.2)) s = zs at *
      wtm_at "rd"
      refine ⟨l, rfl, ⟨_, SqL.of hl⟩, ?_⟩
      intro D fD
      refine lcL (K := K) (xs := zs.map V.str) (fun i H' => Same H1 H' ∧ H' D = some (.lst (((zs.take i).filter fun o => decide (slp m.f s o = -1)).map V.str))) ⟨Same.new fD, upd_same⟩ ?_ ?_ ?_
      · rintro i H' hi ⟨s2, _⟩
        exact SqL.of (s2 _ _ hl)
      · rintro i y H' hy ⟨s2, hD⟩
        obtain ⟨hi, rfl⟩ := map_at hy
        have yin := zin _ (List.getElem_mem hi)
        have lt : ((zs.take i).filter fun o => decide (slp m.f s o = -1)).length ≤ 2000 := Nat.le_trans (List.length_filter_le _ _) (by rw [List.length_take]; omega)
        rw [take_snoc hi, List.filter_append, List.map_append]
        generalize zs[i] = y at *
        have a2 := a1.same s2
        wtm_at "rd"
        refine m.get_current T a2.ins ?_
        wtm_at "rd"
        refine ⟨m.cu, s, y, m.ord, m.f, rfl, .inl a2.cu, gs.inO _ hs, gs.inO _ yin, ?_⟩
        wtm_at "rd"
        refine rd_split (fun k => ?_) (fun k => ?_)
        · rw [List.filter_cons, if_pos (decide_eq_true k)]
          wtm_at "rd"
          refine rd_acc hD (by rw [List.length_map]; omega) ?_
          exact ⟨same_put s2 fD, upd_same⟩
        · rw [List.filter_cons, if_neg (by rw [decide_eq_false k]; exact Bool.false_ne_true)]
          exact ⟨s2, hD.trans (by rw [List.filter_nil, List.map_nil, List.append_nil])⟩
      rintro H2 ⟨s2, hD⟩
      rw [List.length_map, List.take_length] at hD
      exact q D H2 (s1.trans s2) (new_of_same s1 fD) hD
    · rw [if_neg c] at q
      wtm_at "rd"
      refine m.get_own_graph T a.ins ?_
      wtm_at "rd"
      refine ⟨m.g, n, e, _, ns, es, rfl, gs.grs, .inl ⟨s, rfl, hs, fun l zs H1 s1 fl hl pm srt => ?_⟩⟩
      obtain rfl := nbS_of gs.ok pm srt
      have a1 := a.same s1
      have zin : ∀ y ∈ nbS (es.map (·.2)) s, y ∈ ns := fun y hy => by
        rcases mem_nbrF.mp (pm.mem_iff.mp hy) with h | h
        · exact (gs.ok.mem _ h).2
        · exact (gs.ok.mem _ h).1
      have zl : (nbS (es.map (·.2)) s).length ≤ 2000 := by
        rw [pm.length_eq]
        have := nbrF_len (x := s) (es := es.map (·.2))
        have := gs.l3
        rw [List.length_map] at *
        omega
      generalize nbS (es.map (·.2)) s = zs at *
      wtm_at "rd"
      refine ⟨l, rfl, ⟨_, SqL.of hl⟩, ?_⟩
      intro D fD
      refine lcL (K := K) (xs := zs.map V.str) (fun i H' => Same H1 H' ∧ H' D = some (.lst (((zs.take i).filter fun o => decide (slp m.f s o = 1)).map V.str))) ⟨Same.new fD, upd_same⟩ ?_ ?_ ?_
      · rintro i H' hi ⟨s2, _⟩
        exact SqL.of (s2 _ _ hl)
      · rintro i y H' hy ⟨s2, hD⟩
        obtain ⟨hi, rfl⟩ := map_at hy
        have yin := zin _ (List.getElem_mem hi)
        have lt : ((zs.take i).filter fun o => decide (slp m.f s o = 1)).length ≤ 2000 := Nat.le_trans (List.length_filter_le _ _) (by rw [List.length_take]; omega)
        rw [take_snoc hi, List.filter_append, List.map_append]
        generalize zs[i] = y at *
        have a2 := a1.same s2
        wtm_at "rd"
        refine m.get_current T a2.ins ?_
        wtm_at "rd"
        refine ⟨m.cu, s, y, m.ord, m.f, rfl, .inl a2.cu, gs.inO _ hs, gs.inO _ yin, ?_⟩
        wtm_at "rd"
        refine rd_split (fun k => ?_) (fun k => ?_)
        · rw [List.filter_cons, if_pos (decide_eq_true k)]
          wtm_at "rd"
          refine rd_acc hD (by rw [List.length_map]; omega) ?_
          exact ⟨same_put s2 fD, upd_same⟩
        · rw [List.filter_cons, if_neg (by rw [decide_eq_false k]; exact Bool.false_ne_true)]
          exact ⟨s2, hD.trans (by rw [List.filter_nil, List.map_nil, List.append_nil])⟩
      rintro H2 ⟨s2, hD⟩
      rw [List.length_map, List.take_length] at hD
      exact q D H2 (s1.trans s2) (new_of_same s1 fD) hD
theorem ok_isNdV {f : Addr} {fd : FuncData} (F : Fun K "is_node" "is_node" s_is_node f fd) (B : Bt mg) (cM : ∃ u, mg "MAX_NAME" = some u ∧ RelV (.int 8) u) (cL : ∃ u, mg "LETTERS" = some u ∧ RelV (.str "abcdefghijklmnopqrstuvwxyz") u) : FnG P w K mg base CX0 1 f fd ["candidate"] (spIsNdV K) := by
  refine fnG0 F sc_is_node (fun vs H Q E h => ?_) (fun cdv A outer s H vs Q E hr h => ?_)
  · obtain ⟨x, rfl, _⟩ := h
    rfl
  · obtain ⟨x, rfl, alt⟩ := h
    have nd := sc_is_node.nd
    have hu := hr.u1
    refine ⟨_, (pss_cons (ps_if (PW.pt (pw_or (pt_not (pt_val (pe_callB (kIsi K rfl) (by rfl) B.isinstance bb_isinstance (pa_cons (pv 0) (pa_cons (pe_ty rfl B.str bb_str) pa_nil))))) (pw_or1 (pt_not (pt_chain uLe uLe pe_int (pe_callB (kLen K rfl) (by rfl) B.len bb_len (pa_cons (pv 0) pa_nil)) (pe_gl rfl cM)))))) (pss_one (ps_ret pe_bl)) pss_nil)
  (pss_one (ps_ret (pe_callB (kAll K rfl rfl) (by rfl) B.all bb_all (pa_cons (pe_lc (own := [("letter", 1)]) rfl nd (pi_str (pv 0)) (blkOk_by (own := [("letter", 1)]) (N := nN_is_node) (sc := defScope s_is_node) (by decide +kernel)) (fun _ _ _ _ _ => (pg_name (i := 1) nd rfl (by first | exact Or.inl rfl | exact Or.inr rfl))) (fun _ _ _ _ _ => pts_nil) (fun _ _ _ _ _ => (pe_cmpR op_inS (pv 1) (pe_gl rfl cL) rfl))) pa_nil))))), ?_⟩
    rcases alt with ⟨s, rfl, nm, q⟩ | ⟨nn, q⟩
    rotate_left
    · wtm_at "rd"
      rcases nn with ⟨t, h1, h2⟩ | ⟨s, rfl, hs⟩
      · refine rd_isi h1 rfl ?_
        rw [h2]
        wtm_at "rd"
        exact q
      · refine rd_isi ty_str rfl ?_
        rw [show isT Ty.str Ty.str = true from rfl]
        wtm_at "rd"
        refine rd_lenS (by omega) ?_
        wtm_at "rd"
        rcases hs with z | ⟨z, _⟩
        · refine rd_no (by omega) ?_
          wtm_at "rd"
          exact q
        · refine rd_yes (by omega) ?_
          wtm_at "rd"
          refine rd_nyes (by omega) ?_
          wtm_at "rd"
          exact q
    have lo := nm.lo
    have hi := nm.hi
    wtm_at "rd"
    refine rd_isi ty_str rfl ?_
    rw [show isT Ty.str Ty.str = true from rfl]
    wtm_at "rd"
    refine rd_lenS (by omega) ?_
    wtm_at "rd"
    refine rd_yes (by omega) ?_
    wtm_at "rd"
    refine rd_nno (by omega) ?_
    wtm_at "rd"
    refine ⟨_, rfl, s, rfl, ?_⟩
    intro D fD
    have len8 : s.cps.size ≤ 8 := hi
    refine lc_it walk_str (fun i H2 => Same H H2 ∧ H2 D = some (.lst ((List.replicate i true).map V.bl))) ⟨Same.new fD, upd_same⟩ (fun _ _ _ _ => trivial) ?_ ?_
    · rintro i y H2 H3 hi ⟨s', hD⟩ ⟨rfl, c, hc, rfl⟩
      have cin : c ∈ s.cps.toList := by
        rw [Array.mem_toList_iff]
        exact Array.mem_of_getElem? hc
      have ci := nm.ch c cin
      have cabc : c ∈ ("abcdefghijklmnopqrstuvwxyz" : Str).cps.toList := by
        have e : ("abcdefghijklmnopqrstuvwxyz" : Str).cps.toList = (List.range 26).map (· + 97) := by decide +kernel
        rw [e]
        exact List.mem_map.mpr ⟨c - 97, List.mem_range.mpr (by omega), by omega⟩
      show gName _ (V.str ⟨#[c]⟩) _ _ _
      wtm_at "rd"
      refine rd_inCh ?_
      rw [decide_eq_true cabc]
      refine ⟨_, hD, by rw [List.length_map, List.length_replicate]; have : i < s.cps.size := hi; show i < sizeLine; exact Nat.lt_of_lt_of_le (by omega : i < 8) (by decide), fun b o hb => ?_, ?_⟩
      · have nb : b ≠ D := fun z => by
          rw [z, fD] at hb
          exact nomatch hb
        rw [upd_ne nb]
        exact s' _ _ hb
      · rw [upd_same, List.replicate_succ', List.map_append]
        rfl
    · rintro H2 ⟨s', hD⟩
      wtm_at "rd"
      refine rd_allL (SqL.of hD) ?_
      wtm_at "rd"
      have e : ((List.replicate s.cps.size true).all id) = true := by
        rw [List.all_eq_true]
        intro b hb
        exact (List.eq_of_mem_replicate hb)
      rw [e]
      exact q H2 s'
structure TWd (P : Program) (w : World) (K : PySem.W.Frag) (mg : Str → Option Value) (base : Heap) (CN : Addr) : Prop where
  check_node : Cal P w K mg base (L2.CX P w) 3 "check_node" (spChkN K CN)
  is_node : Cal P w K mg base CX0 1 "is_node" (spIsNdV K)
theorem ok_tmAsX {f Cl CW CN : Addr} {fd : FuncData} (F : Fun K "assign" "Team.assign" s_Team_assign f fd) (B : Bt mg) (T : TmC K Cl) (D : TWd P w K mg base CN) (U : ErrB P w K mg base "UnknownWorker" "worker" "KeyError" "LookupError.__new__" "KeyError.__init__" bmKE CW) : FnG P w K mg base (L2.CX P w) 4 f fd ["self", "worker", "nodes"] (spTmAsX K Cl CW CN) := by
  have C := D
  refine fnG F sc_Team_assign (fun vs H Q E h => ?_) (fun cdv A outer s H vs Q E hr h => ?_)
  · obtain ⟨m, x, y, ys, nl, n, e, ns, es, rfl, _⟩ := h
    rfl
  · obtain ⟨m, x, y, ys, nl, n, e, ns, es, rfl, a, gr, hnl, alt⟩ := h
    have nd := sc_Team_assign.nd
    have hu := hr.u1
    refine ⟨_, (pss_cons (ps_if (pt_not (pt_val (pe_c C.is_node hr (by decide) rfl (pa_cons (pv 1) pa_nil)))) (pss_one (ps_rzB U hr (by decide) rfl (takes_of rfl rfl rfl rfl) rfl (pv 1))) pss_nil)
  (pss_cons (ps_for (passes_of rfl) rfl (ki_list K rfl (pv 2)) (pg_name (i := 3) nd rfl (by first | exact Or.inl rfl | exact Or.inr rfl)) (pss_one (ps_expr (pe_cX C.check_node hr (by decide) rfl (takes_of rfl rfl rfl rfl) (pa_cons (kFld K rfl (pv 0) rfl) (pa_cons (pv 3) pa_nil))))))
  (C8.pss_cut (ps_if (pt_cmpR (kNotIn K rfl) (pv 1) (kFld K rfl (pv 0) rfl) rfl) (pss_one (ps_expr (pe_bm PySem.F.plainAttrs_list PySem.F.slot_list_append PySem.F.type_list_append mt_append (kFld K rfl (pv 0) rfl) (pa_cons (pv 1) pa_nil)))) pss_nil)
  (pss_one (ps_for (passes_of rfl) rfl (ki_list K rfl (pv 2)) (pg_name (i := 3) nd rfl (by first | exact Or.inl rfl | exact Or.inr rfl)) (pss_one (ps_dput hu (kFld K rfl (pv 0) rfl) (pv 3) (pv 1) rfl))))))), ?_⟩
    wtm_at "rd"
    rcases alt with ⟨nn, er⟩ | ⟨s, rfl, nm, ny, er⟩
    · refine ⟨x, rfl, .inr ⟨nn, ?_⟩⟩
      wtm_at "rd"
      refine rd_rz ?_
      wtm_at "rd"
      exact rd_mk1 fun dd H' s' nd' hd => er dd H' s' nd' hd
    refine ⟨_, rfl, .inl ⟨s, rfl, nm, fun H1 s1 => ?_⟩⟩
    have a1 := a.same s1
    have hnl1 := s1 _ _ hnl
    wtm_at "rd"
    refine rd_forL (SqL.of hnl1) ?_
    refine turnsL (K := K) (xs := y :: ys) (fun i σ H' => i = 0 ∧ H' = H1 ∧ σ = [some (.ref m.t), some (.str s), some (.ref nl), none]) ⟨rfl, rfl, rfl⟩ ?_ ?_ ?_
    · rintro i σ H' hi ⟨_, rfl, _⟩
      exact SqL.of hnl1
    · rintro i z σ H' hz ⟨rfl, rfl, rfl⟩
      obtain rfl : y = z := Option.some.inj hz
      wtm_at "rd"
      refine m.get_own_graph T a1.ins ?_
      wtm_at "rd"
      exact ⟨m.g, n, e, _, ns, es, rfl, gr.same s1, .inr ⟨ny.same s1, fun d H' s' nd' hd => er d H' (s1.trans s') (new_of_same s1 nd') hd⟩⟩
    · rintro σ H' ⟨z, _⟩
      cases z
end
end Law

/-! try with two handlers, the exception kept -/
namespace U
open PySem PySem.Spec PyProof.Rows L2
def wKeep2 (K : PySem.W.Frag) (c c2 : Value) (i : Nat) (ts ts2 : TS) (Wout : WX) (D : Ends) : WX := fun cls d σ H =>
  ∃ b b', PySem.W.exmOne K cls c = some b ∧ PySem.W.exmOne K cls c2 = some b' ∧ (b = false → b' = false → Wout cls d σ H) ∧
    (b = true → ∀ a, H a = none → ts { nx := fun σ1 H1 => D.nx (σ1.set i none) H1, rt := D.rt, bk := fun σ1 H1 => D.bk (σ1.set i none) H1, ct := fun σ1 H1 => D.ct (σ1.set i none) H1 } (σ.set i (some (.ref a))) (upd H a (exk a cls d))) ∧
    (b = false → b' = true → ∀ a, H a = none → ts2 { nx := fun σ1 H1 => D.nx (σ1.set i none) H1, rt := D.rt, bk := fun σ1 H1 => D.bk (σ1.set i none) H1, ct := fun σ1 H1 => D.ct (σ1.set i none) H1 } (σ.set i (some (.ref a))) (upd H a (exk a cls d)))
section
variable {X : Cx} {x x2 n : Str} {c c2 : Value} {i : Nat} {body suite suite2 : List Stmt} {b₀ b₂ : Stmt} {np np2 pos pos' pos2 : Pos} {tb : WX → TS} {ts ts2 : TS} {Wout : WX}
theorem ps_try_keep2 (hs : X.stack = X.env :: X.outer) (hf : X.env.frame = some X.env.locals) (hN : X.N.Nodup) (hi : X.N[i]? = some n) (hln : X.env.kindOf n = some .local) (hc : L2.Names X x c) (hc2 : L2.Names X x2 c2) (tk : Takes X Wout)
    (hb : ∀ (W : WX) (pn : List (Addr × Obj)) (xe : Value → Shared → Prop), Takes (X.tr pn xe) W → PassesOwn (model X.prog X.w) X.A X.env xe → PSs (X.tr pn xe) body (tb W))
    (hsu : ∀ (a : Addr) (pn : List (Addr × Obj)), PSs (X.suite a pn) (b₀ :: suite) ts)
    (hsu2 : ∀ (a : Addr) (pn : List (Addr × Obj)), PSs (X.suite a pn) (b₂ :: suite2) ts2) :
    PS X (.Try body [.ExceptHandler (some (.Name x np)) (some n) (b₀ :: suite) pos', .ExceptHandler (some (.Name x2 np2)) (some n) (b₂ :: suite2) pos2] [] [] pos) (fun D σ H => tb (wKeep2 X.K c c2 i ts ts2 Wout D) D σ H) := by
  refine ⟨fun pins s σ H D I want => ?_⟩
  have okX := I.ok
  have frX : X.A.frames = some (X.env :: X.outer) := by rw [okX.frames, hs]
  refine wpAny_Try_except ?_
  have run := (hb (wKeep2 X.K c c2 i ts ts2 Wout D) (X.pn ++ pins) (fun e t1 => wpAny (model X.prog X.w) X.A (noteFrame e X.env) (fun _ t2 => wpAny (model X.prog X.w) X.A (setFlight e none) (fun _ t3 =>
    wpAny (model X.prog X.w) X.A (handleBy e X.env [.ExceptHandler (some (.Name x np)) (some n) (b₀ :: suite) pos', .ExceptHandler (some (.Name x2 np2)) (some n) (b₂ :: suite2) pos2]) (SP X pins D) X.xe t3) X.xe t2) X.xe t1) ?_ PassesOwn.looking).run [] s σ H D (I.toTry _) want
  · refine wpAny_mono run (fun f t1 h => ?_) fun _ _ z => z
    cases f with
    | next =>
      obtain ⟨σ1, H1, J, q⟩ := h
      exact wpAny_execs_nil ⟨σ1, H1, J.ofTry okX, q⟩
    | brk =>
      obtain ⟨σ1, H1, J, q⟩ := h
      exact ⟨σ1, H1, J.ofTry okX, q⟩
    | cont =>
      obtain ⟨σ1, H1, J, q⟩ := h
      exact ⟨σ1, H1, J.ofTry okX, q⟩
    | ret v =>
      obtain ⟨v1, σ1, H1, J, r, q⟩ := h
      exact ⟨v1, σ1, H1, J.ofTry okX, r, q⟩
  · intro u t0 xx
    obtain ⟨a, B, sI, pins1, σ1, H1, cls, d, rfl, J1, nb, up, sky, na, os, ag, b, b', hb1, hb2, hno, hyes, hyes2⟩ := xx
    have J : Inv X pins σ1 H1 sI := J1.ofTry okX
    have sky1 : Sky B (X.env :: X.outer) a (Zc cls d) X.env.locals t0.heap := by rw [← hs]; exact sky
    show wpAny (model X.prog X.w) X.A (noteFrame (.ref a) X.env) _ _ _
    refine Sky.land Zc.steady frX hf sky1 fun h3 fl3 up3 => ?_
    have J3 : Inv X pins σ1 H1 { t0 with heap := h3 } := J.landed nb fl3.1 (up.trans up3) os ag
    obtain ⟨oe3, vs3, he3, hz3, hd3⟩ := fl3.there
    have off : ∀ {h : Heap} {o : Obj} {vs : Array Value}, h.FunFrames B (X.env :: X.outer) → h.get? a = some o → o.data = .fields vs → a ∉ frs (X.env :: X.outer) := by
      intro h o vs ff e dd hm
      obtain ⟨_, o1, e1, hnf⟩ := ff.mem hm
      rw [e] at e1
      cases e1
      exact hnf _ dd
    have nfr := off fl3.2.2.1 he3 hd3
    have nL : a ≠ X.env.locals := fun z => nfr (List.mem_filterMap.mpr ⟨X.env, List.mem_cons_self, by rw [hf, z]⟩)
    have nF : a ∉ X.fs := by
      intro hm
      obtain ⟨e, he, q⟩ := List.mem_filterMap.mp hm
      exact nfr (List.mem_filterMap.mpr ⟨e, List.mem_cons_of_mem _ he, q⟩)
    have S3 := J3.suite he3 hd3 na nL nF
    refine wpAny_handleBy_cons (codeAny_handlers_test ?_) (by intro q; cases q)
    have LT : PySem.W.Looks (model X.prog X.w) h3 (typeOf (.ref a)) cls := fun A Q E s k q => wpAny_typeOf_ref (k _ _ he3) (by rw [hz3.1]; exact q)
    have LM := PySem.W.exm_one (M := model X.prog X.w) (J3.kIn) LT hb1
    have named : ∀ {Q E : Value → Shared → Prop}, Q c { t0 with heap := h3 } → wpAny (model X.prog X.w) (X.A.mark (some (.ref a))) (eval (.Name x np) X.env) Q E { t0 with heap := h3 } := by
      intro Q E q
      obtain ⟨hg, hdbg, hm | ⟨hm, hv, hnn⟩⟩ := hc
      · exact ld_glob (X := X.suite a ((a, oe3) :: (X.pn ++ pins))) S3 hg hm q hdbg
      · exact ld_blt (X := X.suite a ((a, oe3) :: (X.pn ++ pins))) S3 hg hm hv q hnn hdbg
    refine named (LM.here ?_)
    cases b with
    | false =>
      show wpAny _ X.A (handleBy (.ref a) X.env [.ExceptHandler (some (.Name x2 np2)) (some n) (b₂ :: suite2) pos2]) _ _ _
      refine wpAny_handleBy_cons (codeAny_handlers_test ?_) (by intro q; cases q)
      have LM2 := PySem.W.exm_one (M := model X.prog X.w) (J3.kIn) LT hb2
      have named2 : ∀ {Q E : Value → Shared → Prop}, Q c2 { t0 with heap := h3 } → wpAny (model X.prog X.w) (X.A.mark (some (.ref a))) (eval (.Name x2 np2) X.env) Q E { t0 with heap := h3 } := by
        intro Q E q
        obtain ⟨hg, hdbg, hm | ⟨hm, hv, hnn⟩⟩ := hc2
        · exact ld_glob (X := X.suite a ((a, oe3) :: (X.pn ++ pins))) S3 hg hm q hdbg
        · exact ld_blt (X := X.suite a ((a, oe3) :: (X.pn ++ pins))) S3 hg hm hv q hnn hdbg
      refine named2 (LM2.here ?_)
      cases b' with
      | false =>
        show wpAny _ X.A (handleBy (.ref a) X.env []) _ _ _
        refine wpAny_handleBy_nil ?_
        obtain ⟨k1, k2, k3, oe, vs, T, oT, ts1, he, hz, hd, h1, hr⟩ := id fl3
        unfold PySem.passOn
        refine wpAny_bind (wpAny_field he hd h1 ?_)
        rw [if_neg (show ¬ ((Value.ref T == Value.none) = true) from by simp)]
        have onward : wpAny (model X.prog X.w) X.A (setFlight (.ref a) X.env.frame) (fun _ s4 => wpAny (model X.prog X.w) X.A (throw (.ref a) : Sem Flow) (SP X pins D) X.xe s4) X.xe { t0 with heap := h3 } := by
          rw [hf]
          refine HandSPX.setFlight_upZ fl3 fun h4 hh4 up4 => wpAny_throw (tk _ _ ?_)
          exact ⟨a, B, sI, pins, σ1, H1, cls, d, rfl, J, nb, (up.trans up3).trans up4, .inr (.inr (by rw [hs]; exact hh4)), na, os, ag, hno rfl rfl⟩
        first
          | exact wpAny_bind (wpAny_pure (wpAny_bind onward))
          | exact wpAny_bind onward
      | true =>
        refine codeAny_handlers_suite_as ?_
        refine HandSPX.lands_againZ fl3 fun h4 fl4 up4 => ?_
        obtain ⟨oe4, vs4, he4, hz4, hd4⟩ := fl4.there
        have J4 : Inv X pins σ1 (upd H1 a (exk a cls d)) { t0 with heap := h4 } := landed_k J nb fl4.1 ((up.trans up3).trans up4) os ag fl4.2.1 (by rw [hs]; exact nfr) na he4 hz4 hd4
        have S4 : Inv (X.suite a (X.pn ++ pins)) [] σ1 (upd H1 a (exk a cls d)) { t0 with heap := h4 } :=
          ⟨J4.ok.suite _ _, J4.os, J4.bare, J4.base, J4.loc, J4.cell, J4.free, J4.freeC, fun p hp => J4.pin p (by rw [List.append_nil] at hp; exact hp), J4.hok, J4.len⟩
        refine store_ok (X := X.suite a (X.pn ++ pins)) (v := .ref a) S4 hN hi (.inl hln) rfl (fun s5 S5 => ?_) (.inr hln)
        refine wpAny_mono ((hsu2 a (X.pn ++ pins)).run [] s5 _ _ _ S5 (hyes2 rfl rfl a na)) (fun f s6 hsp => ?_) (fun _ _ z => False.elim z)
        have back : ∀ {σ6 : L2.St} {H6 : Hp}, Inv (X.suite a (X.pn ++ pins)) [] σ6 H6 s6 → Inv X pins σ6 H6 s6 := fun S =>
          ⟨okX, S.os, S.bare, S.base, S.loc, S.cell, S.free, S.freeC, fun p hp => S.pin p (List.mem_append_left _ hp), S.hok, S.len⟩
        have over : ∀ {σ6 : L2.St} {H6 : Hp} {Q : Shared → Prop}, Inv (X.suite a (X.pn ++ pins)) [] σ6 H6 s6 → (∀ s7, Inv X pins (σ6.set i none) H6 s7 → Q s7) →
            wpAny (model X.prog X.w) X.A (do bindName X.env n .none; unbindBehindTheSuite X.env n pos2) (fun _ s7 => Q s7) X.xe s6 := fun S6 hq => gone_ok (back S6) hN hi hln hq
        cases f with
        | next =>
          obtain ⟨σ6, H6, S6, q6⟩ := hsp
          exact over S6 fun s7 J7 => ⟨_, _, J7, q6⟩
        | brk =>
          obtain ⟨σ6, H6, S6, q6⟩ := hsp
          exact over S6 fun s7 J7 => ⟨_, _, J7, q6⟩
        | cont =>
          obtain ⟨σ6, H6, S6, q6⟩ := hsp
          exact over S6 fun s7 J7 => ⟨_, _, J7, q6⟩
        | ret v =>
          obtain ⟨v6, σ6, H6, S6, r6, q6⟩ := hsp
          exact over S6 fun s7 J7 => ⟨_, _, _, J7, r6, q6⟩
    | true =>
      refine codeAny_handlers_suite_as ?_
      refine HandSPX.lands_againZ fl3 fun h4 fl4 up4 => ?_
      obtain ⟨oe4, vs4, he4, hz4, hd4⟩ := fl4.there
      have J4 : Inv X pins σ1 (upd H1 a (exk a cls d)) { t0 with heap := h4 } := landed_k J nb fl4.1 ((up.trans up3).trans up4) os ag fl4.2.1 (by rw [hs]; exact nfr) na he4 hz4 hd4
      have S4 : Inv (X.suite a (X.pn ++ pins)) [] σ1 (upd H1 a (exk a cls d)) { t0 with heap := h4 } :=
        ⟨J4.ok.suite _ _, J4.os, J4.bare, J4.base, J4.loc, J4.cell, J4.free, J4.freeC, fun p hp => J4.pin p (by rw [List.append_nil] at hp; exact hp), J4.hok, J4.len⟩
      refine store_ok (X := X.suite a (X.pn ++ pins)) (v := .ref a) S4 hN hi (.inl hln) rfl (fun s5 S5 => ?_) (.inr hln)
      refine wpAny_mono ((hsu a (X.pn ++ pins)).run [] s5 _ _ _ S5 (hyes rfl a na)) (fun f s6 hsp => ?_) (fun _ _ z => False.elim z)
      have back : ∀ {σ6 : L2.St} {H6 : Hp}, Inv (X.suite a (X.pn ++ pins)) [] σ6 H6 s6 → Inv X pins σ6 H6 s6 := fun S =>
        ⟨okX, S.os, S.bare, S.base, S.loc, S.cell, S.free, S.freeC, fun p hp => S.pin p (List.mem_append_left _ hp), S.hok, S.len⟩
      have over : ∀ {σ6 : L2.St} {H6 : Hp} {Q : Shared → Prop}, Inv (X.suite a (X.pn ++ pins)) [] σ6 H6 s6 → (∀ s7, Inv X pins (σ6.set i none) H6 s7 → Q s7) →
          wpAny (model X.prog X.w) X.A (do bindName X.env n .none; unbindBehindTheSuite X.env n pos') (fun _ s7 => Q s7) X.xe s6 := fun S6 hq => gone_ok (back S6) hN hi hln hq
      cases f with
      | next =>
        obtain ⟨σ6, H6, S6, q6⟩ := hsp
        exact over S6 fun s7 J7 => ⟨_, _, J7, q6⟩
      | brk =>
        obtain ⟨σ6, H6, S6, q6⟩ := hsp
        exact over S6 fun s7 J7 => ⟨_, _, J7, q6⟩
      | cont =>
        obtain ⟨σ6, H6, S6, q6⟩ := hsp
        exact over S6 fun s7 J7 => ⟨_, _, J7, q6⟩
      | ret v =>
        obtain ⟨v6, σ6, H6, S6, r6, q6⟩ := hsp
        exact over S6 fun s7 J7 => ⟨_, _, _, J7, r6, q6⟩
end
end U

/-! what laws try besides nodes -/
namespace Law
open PySem PySem.Spec PyProof.Rows L2 U


theorem lk_1 {k : Str} {v : V} : List.lookup k [(k, v)] = some v := by
  have e : (k == k) = true := beq_self_eq_true k
  simp only [List.lookup, e]
theorem rd_tXk2 {K : PySem.W.Frag} {f : Str} {te : TE} {σ : L2.St} {H : Hp} {Q : VK} (h : te σ H fun x H1 => ∃ (a C dd : Addr) (fs : List (Str × V)) (v : V), x = .ref a ∧ H1 a = some (exk a (.ref C) (some dd)) ∧ XfC K C ∧ PySem.W.findIn K (.ref C) f = some none ∧ H1 dd = some (.xd fs) ∧ fs.lookup f = some v ∧ Q v H1) : tXk K f te σ H Q := h
theorem rp_str {K : PySem.W.Frag} {H : Hp} {z : Str} (h : ∀ c ∈ z.cps.toList, c ≤ 126) (l : z.length ≤ 100) : Rp K H (.str z) (reprText z) := by
  refine .str z ?_
  have lv : (PyData.str z).leavesShort 13 = true := by
    rw [PyData.leavesShort, List.all_eq_true]
    intro x hx
    have := h x hx
    rw [decide_eq_true_eq]
    omega
  have bk : (PyData.str z).bulk ≤ 2 ^ 20 := by
    rw [PyData.bulk]
    have l' : z.cps.size ≤ 100 := l
    omega
  have := PyData.shown_fits_bulk (B := 13) (by decide) (by decide) lv bk
  exact this
/-- what the law tries besides nodes -/
def Cand (K : PySem.W.Frag) (H : Hp) (ns : List Str) (x : V) : Prop := NotN K H ns x ∧ ∃ S, Rp K H x S
theorem Cand.same {K : PySem.W.Frag} {H H' : Hp} {ns : List Str} {x : V} (h : Cand K H ns x) (s : Same H H') : Cand K H' ns x := ⟨h.1.same s, h.2.imp fun _ r => r.same s⟩
section
variable {K : PySem.W.Frag} {H : Hp} {ns : List Str}
end
end Law

/-! k87's _law_call: what a wrong worker or node raises -/
namespace Law
open PySem PySem.Spec PyProof.Rows L2 U LamX


local macro_rules | `(tactic| wtm_at "rd1") => `(tactic| first | with_reducible refine rd_fld ?_ | with_reducible refine rd_mG ?_ | with_reducible refine rd_mGX ?_ | with_reducible refine rd_sFld ?_ | with_reducible refine rd_sAug ?_ | with_reducible refine rd_gFld ?_)
/-- the two errors as they are caught -/
structure IsW (K : PySem.W.Frag) (mg : Str → Option Value) (CN CW : Addr) : Prop where
  gN : mg "UnknownNode" = some (.ref CN)
  gW : mg "UnknownWorker" = some (.ref CW)
  xNN : PySem.W.exmOne K (.ref CN) (.ref CN) = some true
  xNW : ∃ b, PySem.W.exmOne K (.ref CN) (.ref CW) = some b
  xWN : PySem.W.exmOne K (.ref CW) (.ref CN) = some false
  xWW : PySem.W.exmOne K (.ref CW) (.ref CW) = some true
theorem pe_xkK {X : Cx} {K : PySem.W.Frag} (hK : X.K = K) {e : Expr} {te : TE} {pos : Pos} {n : Str} (he : PE X e te) (hb : attributeBase e n X.env (eval e X.env) = eval e X.env := by rfl) : PE X (.Attribute e n pos) (tXk K n te) := by
  subst hK
  exact pe_xk he hb
theorem rp_nil {K : PySem.W.Frag} {H : Hp} : Rp K H (.str "") "''" := by
  have e : reprText ("" : Str) = ("''" : Str) := by decide +kernel
  have := rp_str (K := K) (H := H) (z := ("" : Str)) (fun c hc => by
    have z : ("" : Str).cps.toList = [] := by decide +kernel
    rw [z] at hc
    cases hc) (by decide)
  rw [e] at this
  exact this
/-- what is called tells an error -/
def spCallW (K : PySem.W.Frag) (C : Addr) : Sp := fun vs H Q _ => ∃ (m : Tm) (x : V) (n e : Addr) (ns : List Str) (es : List (Addr × Str × Str)) (S : Str) (dir : Int), vs = [.ref m.t, x, .int dir] ∧ TmAt C H m ∧ GSt H m.g n e m.cu ns m.ord es m.f ∧ m.lo = ns ∧ (∀ w ∈ m.kws, PyData.strOk w = true) ∧ Rp K H x S ∧
  ((dir = 0 ∧ NotN K H ns x ∧ ∀ (t : Addr) (H' : Hp), Same H H' → H t = none → H' t = some (.tup [.str "node", .str S]) → Q (.ref t) H') ∨
   (dir = 1 ∧ NotW K H m.kws x ∧ ∀ (t : Addr) (H' : Hp), Same H H' → H t = none → H' t = some (.tup [.str "worker", .str S]) → Q (.ref t) H') ∨
   (dir = 2 ∧ NotNm K H x ∧ ∀ (t : Addr) (H' : Hp), Same H H' → H t = none → H' t = some (.tup [.str "worker", .str S]) → Q (.ref t) H') ∨
   (dir = 2 ∧ ("" : Str) ∉ ns ∧ (∃ s, x = .str s ∧ IsName s) ∧ ∀ (t : Addr) (H' : Hp), Same H H' → H t = none → H' t = some (.tup [.str "node", .str "''"]) → Q (.ref t) H'))
section
variable {P : Program} {w : World} {K : PySem.W.Frag} {mg : Str → Option Value} {base : Heap}
structure TVa (P : Program) (w : World) (K : PySem.W.Frag) (mg : Str → Option Value) (base : Heap) (C CW CN : Addr) : Prop where
  wf : CalM P w K mg base (L2.CX P w) 5 C "waits_for" (spTmWf K C CN)
  av : CalM P w K mg base (L2.CX P w) 5 C "available" (spTmAvX K C CW)
  as_ : CalM P w K mg base (L2.CX P w) 4 C "assign" (spTmAsX K C CW CN)
theorem ok_callW {f Cl CW CN fW fN : Addr} {fd : FuncData} (F : Fun K "_law_call" "_law_call" s__law_call f fd) (B : Bt mg) (T : TmC K Cl) (D : TVa P w K mg base Cl CW CN) (OW : OwnB K mg "UnknownWorker" "worker" "KeyError" "LookupError.__new__" "KeyError.__init__" bmKE CW fW) (ON : OwnB K mg "UnknownNode" "node" "KeyError" "LookupError.__new__" "KeyError.__init__" bmKE CN fN) (IW : IsW K mg CN CW) : FnG P w K mg base CX0 6 f fd ["_law_team", "_law_candidate", "_law_direction"] (spCallW K Cl) := by
  have C := D
  refine fnG0 F sc__law_call (fun vs H Q E h => ?_) (fun cdv A outer s H vs Q E hr h => ?_)
  · obtain ⟨m, x, n, e, ns, es, S, dir, rfl, _⟩ := h
    rfl
  · obtain ⟨m, x, n, e, ns, es, S, dir, rfl, a, gs, lo, ok, rp, alt⟩ := h
    have nd := sc__law_call.nd
    have hu := hr.u1
    refine ⟨_, (pss_cons (ps_set (i := 3) nd rfl (by first | exact Or.inl rfl | exact Or.inr rfl) pe_non)
  (pss_cons (ps_try_keep2 (i := 4) (Wout := fun _ _ _ _ => False) rfl rfl nd rfl rfl ⟨rfl, by decide, Or.inl IW.gN⟩ ⟨rfl, by decide, Or.inl IW.gW⟩ L2.takes0 (fun W pn xe tk _ => pss_one (ps_if (pt_cmpR (kEq K rfl hr.u64) (pv 2) pe_int (nomark _)) (pss_one (ps_set (i := 3) nd rfl (Or.inl rfl) (pe_mGX C.wf T.cl hr (by decide) tk (pv 0) (pa_cons (pv 1) pa_nil)))) (pss_one (ps_if (pt_cmpR (kEq K rfl hr.u64) (pv 2) pe_int (nomark _)) (pss_one (ps_set (i := 3) nd rfl (Or.inl rfl) (pe_mGX C.av T.cl hr (by decide) tk (pv 0) (pa_cons (pv 1) pa_nil)))) (pss_one (ps_set (i := 3) nd rfl (Or.inl rfl) (pe_mGX C.as_ T.cl hr (by decide) tk (pv 0) (pa_cons (pv 1) (pa_cons (pe_lst (pa_cons pe_str (pa_cons (pe_op uMul pe_str pe_int) pa_nil))) pa_nil))))))))) (fun a pn => pss_one (ps_set (i := 3) nd rfl (Or.inl rfl) (pe_tup (pa_cons pe_str (pa_cons (pe_callB (kReprV K rfl hr.g hr.u64) (by rfl) B.repr bb_repr (pa_cons (pe_xkK (K := K) rfl (pv 4)) pa_nil)) pa_nil))))) (fun a pn => pss_one (ps_set (i := 3) nd rfl (Or.inl rfl) (pe_tup (pa_cons pe_str (pa_cons (pe_callB (kReprV K rfl hr.g hr.u64) (by rfl) B.repr bb_repr (pa_cons (pe_xkK (K := K) rfl (pv 4)) pa_nil)) pa_nil))))))
  (pss_one (ps_ret (pv 3))))), ?_⟩
    wtm_at "rd"
    rcases alt with ⟨rfl, nn, q⟩ | ⟨rfl, nw, q⟩ | ⟨rfl, nm, q⟩ | ⟨rfl, ne, ⟨z, rfl, nm⟩, q⟩
    · refine rd_yes rfl ?_
      wtm_at "rd"
      refine m.call_waits_for a.ins ?_
      wtm_at "rd"
      refine ⟨m, x, n, e, ns, es, rfl, a, gs, lo, .inr ⟨nn, fun d H1 s1 nd1 hd => ?_⟩⟩
      obtain ⟨b', hb'⟩ := IW.xNW
      refine ⟨true, b', IW.xNN, hb', (fun z => nomatch z), (fun _ a2 na => ?_), (fun z => nomatch z)⟩
      have k2 := Same.new (o := exk a2 (.ref CN) (some d)) na
      have ha2 := @upd_same H1 a2 (exk a2 (.ref CN) (some d))
      have hd2 := k2 _ _ hd
      have s3 := (s1).trans k2
      generalize upd H1 a2 (exk a2 (.ref CN) (some d)) = H3 at ha2 hd2 s3
      wtm_at "rd"
      refine rd_tXk2 ?_
      wtm_at "rd"
      refine ⟨a2, CN, d, _, x, rfl, ha2, ON.xf, ON.no, hd2, lk_1, ?_⟩
      wtm_at "rd"
      refine rd_reprV (rp.same s3) ?_
      wtm_at "rd"
      intro t ft
      wtm_at "rd"
      exact q t _ (s3.trans (Same.new ft)) (free_same s3 ft) upd_same
    · refine rd_no (by decide) ?_
      wtm_at "rd"
      refine rd_yes rfl ?_
      wtm_at "rd"
      refine m.call_available a.ins ?_
      wtm_at "rd"
      refine ⟨m, x, n, e, ns, [], es, rfl, a, ok, .inr ⟨nw, fun d H1 s1 nd1 hd => ?_⟩⟩
      refine ⟨false, true, IW.xWN, IW.xWW, (fun _ z => nomatch z), (fun z => nomatch z), fun _ _ a2 na => ?_⟩
      have k2 := Same.new (o := exk a2 (.ref CW) (some d)) na
      have ha2 := @upd_same H1 a2 (exk a2 (.ref CW) (some d))
      have hd2 := k2 _ _ hd
      have s3 := (s1).trans k2
      generalize upd H1 a2 (exk a2 (.ref CW) (some d)) = H3 at ha2 hd2 s3
      wtm_at "rd"
      refine rd_tXk2 ?_
      wtm_at "rd"
      refine ⟨a2, CW, d, _, x, rfl, ha2, OW.xf, OW.no, hd2, lk_1, ?_⟩
      wtm_at "rd"
      refine rd_reprV (rp.same s3) ?_
      wtm_at "rd"
      intro t ft
      wtm_at "rd"
      exact q t _ (s3.trans (Same.new ft)) (free_same s3 ft) upd_same
    · refine rd_no (by decide) ?_
      wtm_at "rd"
      refine rd_no (by decide) ?_
      wtm_at "rd"
      refine m.call_assign a.ins ?_
      wtm_at "rd"
      refine ⟨⟨by decide, by decide, by decide⟩, ?_⟩
      wtm_at "rd"
      intro l fl
      have kl := Same.new (o := .lst [.str "", .str (timesS "z" 9)]) fl
      have hl := @upd_same H l (.lst [.str "", .str (timesS "z" 9)])
      generalize upd H l (.lst [.str "", .str (timesS "z" 9)]) = H0 at *
      wtm_at "rd"
      refine ⟨m, x, .str "", [.str (timesS "z" 9)], l, n, e, ns, es, rfl, a.same kl, gs.gr.same kl, hl, .inl ⟨nm.same kl, fun d H1 s1 nd1 hd => ?_⟩⟩
      refine ⟨false, true, IW.xWN, IW.xWW, (fun _ z => nomatch z), (fun z => nomatch z), fun _ _ a2 na => ?_⟩
      have k2 := Same.new (o := exk a2 (.ref CW) (some d)) na
      have ha2 := @upd_same H1 a2 (exk a2 (.ref CW) (some d))
      have hd2 := k2 _ _ hd
      have s3 := (kl.trans s1).trans k2
      generalize upd H1 a2 (exk a2 (.ref CW) (some d)) = H3 at ha2 hd2 s3
      wtm_at "rd"
      refine rd_tXk2 ?_
      wtm_at "rd"
      refine ⟨a2, CW, d, _, x, rfl, ha2, OW.xf, OW.no, hd2, lk_1, ?_⟩
      wtm_at "rd"
      refine rd_reprV (rp.same s3) ?_
      wtm_at "rd"
      intro t ft
      wtm_at "rd"
      exact q t _ (s3.trans (Same.new ft)) (free_same s3 ft) upd_same
    · refine rd_no (by decide) ?_
      wtm_at "rd"
      refine rd_no (by decide) ?_
      wtm_at "rd"
      refine m.call_assign a.ins ?_
      wtm_at "rd"
      refine ⟨⟨by decide, by decide, by decide⟩, ?_⟩
      wtm_at "rd"
      intro l fl
      have kl := Same.new (o := .lst [.str "", .str (timesS "z" 9)]) fl
      have hl := @upd_same H l (.lst [.str "", .str (timesS "z" 9)])
      generalize upd H l (.lst [.str "", .str (timesS "z" 9)]) = H0 at *
      wtm_at "rd"
      refine ⟨m, _, .str "", [.str (timesS "z" 9)], l, n, e, ns, es, rfl, a.same kl, gs.gr.same kl, hl, .inr ⟨z, rfl, nm, .inr ⟨_, rfl, ne⟩, fun d H1 s1 nd1 hd => ?_⟩⟩
      obtain ⟨b', hb'⟩ := IW.xNW
      refine ⟨true, b', IW.xNN, hb', (fun z => nomatch z), (fun _ a2 na => ?_), (fun z => nomatch z)⟩
      have k2 := Same.new (o := exk a2 (.ref CN) (some d)) na
      have ha2 := @upd_same H1 a2 (exk a2 (.ref CN) (some d))
      have hd2 := k2 _ _ hd
      have s3 := (kl.trans s1).trans k2
      generalize upd H1 a2 (exk a2 (.ref CN) (some d)) = H3 at ha2 hd2 s3
      wtm_at "rd"
      refine rd_tXk2 ?_
      wtm_at "rd"
      refine ⟨a2, CN, d, _, .str "", rfl, ha2, ON.xf, ON.no, hd2, lk_1, ?_⟩
      wtm_at "rd"
      refine rd_reprV rp_nil ?_
      wtm_at "rd"
      intro t ft
      wtm_at "rd"
      exact q t _ (s3.trans (Same.new ft)) (free_same s3 ft) upd_same
end
end Law

/-! k87's _law_same_twice, _law_expected_waits -/
namespace Law
open PySem PySem.Spec PyProof.Rows L2 U LamX


local macro_rules | `(tactic| wtm_at "rd1") => `(tactic| first | with_reducible refine rd_fld ?_ | with_reducible refine rd_mG ?_ | with_reducible refine rd_mGX ?_ | with_reducible refine rd_sFld ?_ | with_reducible refine rd_sAug ?_ | with_reducible refine rd_gFld ?_)
theorem rd_reprLd {K : PySem.W.Frag} {H : Hp} {Q : VK} {a : Addr} {d : PyData} (h : Dp K H (.ref a) d) (n : d.hasDict = false) (s : Shows d) (q : Q (.str d.shown) H) : rReprL K [.ref a] H Q := .inr ⟨d, h, n, s, q⟩
theorem SmD.int3 {i : Int} (h : 0 ≤ i ∧ i < 3) : SmD 8 0 (.int i) := by
  have : i = 0 ∨ i = 1 ∨ i = 2 := by omega
  rcases this with rfl | rfl | rfl <;> exact ⟨by decide +kernel, by decide +kernel, by decide +kernel, by decide +kernel, by decide +kernel⟩
theorem SmD.mv {ms : List (Str × Int)} (nm : ∀ m ∈ ms, IsName m.1 ∧ 0 ≤ m.2 ∧ m.2 < 3) : SmD (19 * ms.length) 2 (dMv ms) := by
  have each : ∀ d ∈ ms.map (fun m => PyData.tuple [.str m.1, .int m.2]), SmD 18 1 d := fun d hd => by
    obtain ⟨m, hm, rfl⟩ := List.mem_map.mp hd
    obtain ⟨a, b⟩ := nm m hm
    exact (SmD.tup (SmDs.cons (SmD.name a) (SmDs.cons (SmD.int3 b) SmDs.nil))).mono (by omega) (by omega)
  have := SmDs.of each
  rw [List.length_map] at this
  exact SmD.lst this
theorem SmD.strs {xs : List Str} (nm : ∀ x ∈ xs, IsName x) : SmD (9 * xs.length) 1 (.list (xs.map PyData.str)) := by
  have each : ∀ d ∈ xs.map PyData.str, SmD 8 0 d := fun d hd => by
    obtain ⟨x, hx, rfl⟩ := List.mem_map.mp hd
    exact SmD.name (nm x hx)
  have := SmDs.of each
  rw [List.length_map] at this
  exact SmD.lst this
/-- whom a node waits for -/
def waitF (es : List (Str × Str)) (f h : Str → Int) (s : Str) : List Str := if h s = 0 then [] else (nbS es s).filter fun o => decide (slp f s o = if 0 < h s then -1 else 1)
theorem nbS_mem {es : List (Str × Str)} {ns : List Str} (ok : GrOk ns es) {s y : Str} (h : y ∈ nbS es s) : y ∈ ns := by
  rcases mem_nbrF.mp ((sortS_perm _).mem_iff.mp h) with h | h
  · exact (ok.mem _ h).2
  · exact (ok.mem _ h).1
theorem wait_mem {es : List (Str × Str)} {ns : List Str} (ok : GrOk ns es) {f h : Str → Int} {s y : Str} (q : y ∈ waitF es f h s) : y ∈ ns := by
  unfold waitF at q
  split at q
  · cases q
  · exact nbS_mem ok (List.mem_filter.mp q).1
theorem wait_len {es : List (Str × Str)} {f h : Str → Int} {s : Str} : (waitF es f h s).length ≤ 2 * es.length := by
  unfold waitF
  split
  · exact Nat.zero_le _
  · refine Nat.le_trans (List.length_filter_le _ _) ?_
    rw [show (nbS es s).length = (nbrF es s).length from (sortS_perm _).length_eq]
    exact nbrF_len
/-- the list told is what the team tells, twice -/
def spTwice (K : PySem.W.Frag) (C : Addr) : Sp := fun vs H Q _ => ∃ (m : Tm) (x : Str) (l n e : Addr) (ns pn : List Str) (es : List (Addr × Str × Str)) (dir : Int), vs = [.ref m.t, .str x, .int dir, .ref l] ∧ TmAt C H m ∧ GSt H m.g n e m.cu ns m.ord es m.f ∧ m.lo = ns ∧ (∀ w ∈ m.kws, PyData.strOk w = true) ∧ SqT K H m.ps (pn.map V.str) ∧
  ((dir = 0 ∧ x ∈ ns ∧ H l = some (.lst ((waitF (es.map (·.2)) m.f m.h x).map V.str))) ∨
   (dir = 1 ∧ x ∈ m.kws ∧ ∃ ts : List (Addr × Str × Int), H l = some (.lst (ts.map fun t => V.ref t.1)) ∧ TupsAt H ts ∧ ts.map (·.2) = (progF ns (es.map (·.2)) m.f m.h pn).filter fun y => decide (y.1 ∈ m.oks ∧ m.own y.1 = x))) ∧
  ∀ H' : Hp, Same H H' → Q (.bl true) H'
section
variable {P : Program} {w : World} {K : PySem.W.Frag} {mg : Str → Option Value} {base : Heap}
structure TQa (P : Program) (w : World) (K : PySem.W.Frag) (mg : Str → Option Value) (base : Heap) (C CW CN : Addr) : Prop where
  wf : CalM P w K mg base (L2.CX P w) 5 C "waits_for" (spTmWf K C CN)
  av : CalM P w K mg base (L2.CX P w) 5 C "available" (spTmAvX K C CW)
theorem ok_twice {f Cl CW CN : Addr} {fd : FuncData} (F : Fun K "_law_same_twice" "_law_same_twice" s__law_same_twice f fd) (B : Bt mg) (T : TmC K Cl) (D : TQa P w K mg base Cl CW CN) : FnG P w K mg base CX0 6 f fd ["_law_team", "_law_candidate", "_law_direction", "_law_expected"] (spTwice K Cl) := by
  have C := D
  refine fnG0 F sc__law_same_twice (fun vs H Q E h => ?_) (fun cdv A outer s H vs Q E hr h => ?_)
  · obtain ⟨m, x, l, n, e, ns, pn, es, dir, rfl, _⟩ := h
    rfl
  · obtain ⟨m, x, l, n, e, ns, pn, es, dir, rfl, a, gs, lo, ok, hps, alt, q⟩ := h
    have nd := sc__law_same_twice.nd
    have hu := hr.u1
    refine ⟨_, (pss_cons (ps_for PassesOwn.never rfl (pi_range1 rfl B.range (pa_cons pe_int pa_nil)) (pg_name (i := 4) nd rfl (by first | exact Or.inl rfl | exact Or.inr rfl)) (pss_cons (ps_set (i := 5) nd rfl (by first | exact Or.inl rfl | exact Or.inr rfl) (pe_ifExp (pt_cmpR (kEq K rfl hr.u64) (pv 2) pe_int (nomark _)) (pe_mG C.wf T.cl hr (by decide) passL (pv 0) (pa_cons (pv 1) pa_nil)) (pe_mG C.av T.cl hr (by decide) passL (pv 0) (pa_cons (pv 1) pa_nil))))
  (pss_cons (ps_if (pt_cmpR (kNe K rfl hr.u64) (pe_callB (kReprL K rfl hr.g hr.u64) (by rfl) B.repr bb_repr (pa_cons (pv 5) pa_nil)) (pe_callB (kReprL K rfl hr.g hr.u64) (by rfl) B.repr bb_repr (pa_cons (pv 3) pa_nil)) (nomark _)) (pss_one (ps_ret pe_bl)) pss_nil)
  (pss_one (ps_expr (pe_bm PySem.F.plainAttrs_list PySem.F.slot_list_append PySem.F.type_list_append mt_append (pv 5) (pa_cons pe_non pa_nil)))))))
  (pss_one (ps_ret pe_bl))), ?_⟩
    wtm_at "rd"
    refine turnsR (fun i σ H' => (∃ u4 u5 : Option V, σ = [some (.ref m.t), some (.str x), some (.int dir), some (.ref l), u4, u5]) ∧ Same H H') ⟨⟨_, _, rfl⟩, fun _ _ h => h⟩ ?_ ?_
    · rintro i σ H1 hi ⟨⟨u4, u5, rfl⟩, s1⟩
      have a1 := a.same s1
      have gs1 := gs.same s1
      wtm_at "rd"
      rcases alt with ⟨rfl, xin, hl⟩ | ⟨rfl, xw, ts, hl, ta, et⟩
      · refine rd_yes rfl ?_
        wtm_at "rd"
        refine m.call_waits_for a1.ins ?_
        wtm_at "rd"
        refine ⟨m, _, n, e, ns, es, rfl, a1, gs1, lo, .inl ⟨x, rfl, xin, fun k H2 s2 fk hk => ?_⟩⟩
        have hk : H2 k = some (.lst ((waitF (es.map (·.2)) m.f m.h x).map V.str)) := hk
        have hl2 := s2 _ _ (s1 _ _ hl)
        have nm : ∀ y ∈ waitF (es.map (·.2)) m.f m.h x, IsName y := fun y hy => gs.ok.names.ok _ (wait_mem gs.ok hy)
        have wl : (waitF (es.map (·.2)) m.f m.h x).length ≤ 2000 := by
          have := wait_len (es := es.map (·.2)) (f := m.f) (h := m.h) (s := x)
          have := gs.l3
          rw [List.length_map] at *
          omega
        generalize waitF (es.map (·.2)) m.f m.h x = zs at *
        have sh := (SmD.strs nm).mono (n2 := 18000) (m2 := 1) (by omega) (by omega)
        wtm_at "rd"
        refine rd_reprLd (d := .list (zs.map PyData.str)) (.lst (SqL.of hk) (dp_strs zs)) sh.nd (sh.shows (by decide) (by decide)) ?_
        wtm_at "rd"
        refine rd_reprLd (d := .list (zs.map PyData.str)) (.lst (SqL.of hl2) (dp_strs zs)) sh.nd (sh.shows (by decide) (by decide)) ?_
        wtm_at "rd"
        refine rd_nno rfl ?_
        wtm_at "rd"
        refine rd_tyL hk ?_
        wtm_at "rd"
        refine rd_append hk (by rw [List.length_map]; omega) ?_
        exact ⟨⟨_, _, rfl⟩, same_put (s1.trans s2) (free_same s1 fk)⟩
      · refine rd_no (by decide) ?_
        wtm_at "rd"
        refine m.call_available a1.ins ?_
        wtm_at "rd"
        refine ⟨m, _, n, e, ns, pn, es, rfl, a1, ok, .inl ⟨x, rfl, xw, gs1, lo, Same.seqT s1 hps, fun k ms H2 s2 fk hk tm em => ?_⟩⟩
        have hl2 := s2 _ _ (s1 _ _ hl)
        have ta2 := (ta.same s1).same s2
        have nm : ∀ y ∈ ts.map (·.2), IsName y.1 ∧ 0 ≤ y.2 ∧ y.2 < 3 := fun y hy => by
          rw [et] at hy
          have := prog_legal (List.mem_filter.mp hy).1
          exact ⟨gs.ok.names.ok _ this.1.mem, this.1.val⟩
        have tl : ts.length ≤ 100 := by
          have e1 := congrArg List.length et
          rw [List.length_map] at e1
          rw [e1]
          refine Nat.le_trans (List.length_filter_le _ _) ?_
          have := (pm_nodup (es := es.map (·.2)) (f := m.f) (h := m.h) (pn := pn) gs.nd)
          rw [← prog_eq gs.eok (fun y hy => hy)] at this
          have := nodup_len this.1 this.2
          rw [List.length_map] at this
          have := gs.l2
          omega
        have e2 : ms.map (·.2) = ts.map (·.2) := em.trans et.symm
        have sh := (SmD.mv nm).mono (n2 := 2000) (m2 := 2) (by rw [List.length_map]; omega) (by omega)
        have d1 := moves_dp (K := K) tm
        have d2 := moves_dp (K := K) ta2
        rw [mvd] at d1 d2
        rw [e2] at d1
        wtm_at "rd"
        refine rd_reprLd (d := dMv (ts.map (·.2))) (.lst (SqL.of hk) d1) sh.nd (sh.shows (by decide) (by decide)) ?_
        wtm_at "rd"
        refine rd_reprLd (d := dMv (ts.map (·.2))) (.lst (SqL.of hl2) d2) sh.nd (sh.shows (by decide) (by decide)) ?_
        wtm_at "rd"
        refine rd_nno rfl ?_
        wtm_at "rd"
        refine rd_tyL hk ?_
        wtm_at "rd"
        refine rd_append hk (by
          have := congrArg List.length e2
          rw [List.length_map, List.length_map] at this
          rw [List.length_map]
          omega) ?_
        exact ⟨⟨_, _, rfl⟩, same_put (s1.trans s2) (free_same s1 fk)⟩
    · rintro σ H1 ⟨⟨u4, u5, rfl⟩, s1⟩
      wtm_at "rd"
      exact q H1 s1
end
end Law

/-! k87's _law_expected_waits -/
namespace Law
open PySem PySem.Spec PyProof.Rows L2 U LamX


def spWaitL (K : PySem.W.Frag) : Sp := fun vs H Q _ => ∃ (g n e cu re : Addr) (x : Str) (ns ord : List Str) (es : List (Addr × Str × Str)) (f h : Str → Int), vs = [.ref g, .ref cu, .ref re, .str x] ∧ GSt H g n e cu ns ord es f ∧ H re = some (.dK (kvF ns h)) ∧ x ∈ ns ∧
  ∀ (l : Addr) (H' : Hp), Same H H' → H l = none → H' l = some (.lst ((waitF (es.map (·.2)) f h x).map V.str)) → Q (.ref l) H'
theorem wait_sort {es : List (Str × Str)} {ns : List Str} (ok : GrOk ns es) {x : Str} {p : Str → Bool} {ys : List Str} (pm : ys.Perm ((nbrF es x).filter p)) (s : ys.Pairwise fun a b => ¬ sLt b a) : ys = (nbS es x).filter p := by
  have nd : ((nbrF es x).filter p).Nodup := (nbrF_nodup ok x).filter _
  rw [sort_uniq pm s nd]
  exact (sort_uniq ((sortS_perm _).filter p) ((sortS_pw _).filter _) nd).symm
/-- the first letter that names no node -/
def unF (ns : List Str) : Str := ((abcS.cps.toList.map chS).filter fun x => !decide (x ∈ ns)).headD ""
def spUnusedE : Sp := fun vs H Q _ => ∃ (g n e : Addr) (ns : List Str), vs = [.ref g] ∧ H g = some (.tup [.ref n, .ref e]) ∧ H n = some (.tup (ns.map V.str)) ∧ ns.length ≤ 25 ∧ ∀ H' : Hp, Same H H' → unF ns ∉ ns → IsName (unF ns) → Q (.str (unF ns)) H'
section
variable {P : Program} {w : World} {K : PySem.W.Frag} {mg : Str → Option Value} {base : Heap}
structure TRa (P : Program) (w : World) (K : PySem.W.Frag) (mg : Str → Option Value) (base : Heap) : Prop where
  _law_neighbors : Cal P w K mg base CX0 1 "_law_neighbors" spNbrL
theorem ok_waitL {f : Addr} {fd : FuncData} (F : Fun K "_law_expected_waits" "_law_expected_waits" s__law_expected_waits f fd) (B : Bt mg) (C : TRa P w K mg base) : FnG P w K mg base CX0 2 f fd ["_law_graph", "_law_current", "_law_remaining", "_law_node"] (spWaitL K) := by
  refine fnG0 F sc__law_expected_waits (fun vs H Q E h => ?_) (fun cdv A outer s H vs Q E hr h => ?_)
  · obtain ⟨g, n, e, cu, re, x, ns, ord, es, f, h, rfl, _⟩ := h
    rfl
  · obtain ⟨g, n, e, cu, re, x, ns, ord, es, f, h, rfl, gs, hre, xin, q⟩ := h
    have nd := sc__law_expected_waits.nd
    have hu := hr.u1
    refine ⟨_, (pss_cons (ps_if (pt_cmpR (kEq K rfl hr.u64) (pe_dget hu (pv 2) (pv 3) (fun _ _ => rfl)) pe_int (nomark _)) (pss_one (ps_ret (pe_lst pa_nil))) pss_nil)
  (pss_cons (ps_set (i := 4) nd rfl (by first | exact Or.inl rfl | exact Or.inr rfl) (pe_ifExp (pt_cmpR uGt (pe_dget hu (pv 2) (pv 3) (fun _ _ => rfl)) pe_int (nomark _)) (pe_op uMod (pe_op (kAdd K rfl) (pe_dget hu (pv 1) (pv 3) (fun _ _ => rfl)) pe_int) pe_int) (pe_op uMod (pe_op (kAdd K rfl) (pe_dget hu (pv 1) (pv 3) (fun _ _ => rfl)) pe_int) pe_int)))
  (pss_one (ps_ret (pe_callB (kSorted K rfl hr.u64) (by rfl) B.sorted bb_sorted (pa_cons (pe_lc (own := [("_law_one", 5)]) rfl nd (ki_list K rfl (pe_c C._law_neighbors hr (by decide) rfl (pa_cons (pv 0) (pa_cons (pv 3) pa_nil)))) (blkOk_by (own := [("_law_one", 5)]) (N := nN__law_expected_waits) (sc := defScope s__law_expected_waits) (by decide +kernel)) (fun _ _ _ _ _ => (pg_name (i := 5) nd rfl (by first | exact Or.inl rfl | exact Or.inr rfl))) (fun _ _ _ _ _ => (pts_one (pt_cmpR (kEq K rfl hr.u64) (pe_dget hu (pv 1) (pv 5) (fun _ _ => rfl)) (pv 4) (nomark _)))) (fun _ _ _ _ _ => (pv 5))) pa_nil)))))), ?_⟩
    wtm_at "rd"
    refine rd_dat (.inl hre) (kvF_val xin) rfl ?_
    wtm_at "rd"
    unfold waitF at q
    refine rd_split (fun z => ?_) (fun z => ?_)
    · rw [if_pos z] at q
      wtm_at "rd"
      intro l fl
      exact q l _ (Same.new fl) fl upd_same
    rw [if_neg z] at q
    wtm_at "rd"
    refine rd_dat (.inl hre) (kvF_val xin) rfl ?_
    wtm_at "rd"
    have tx := gs.tri x xin
    have adj : ∀ y ∈ nbrF (es.map (·.2)) x, y ∈ ns ∧ f y ≠ f x ∧ 0 ≤ f y ∧ f y < 3 := fun y hy => by
      rcases mem_nbrF.mp hy with hy | hy
      · obtain ⟨a, ha, ea⟩ := List.mem_map.mp hy
        have p := gs.pro a ha
        have yin := (gs.ok.mem _ hy).2
        rw [ea] at p
        exact ⟨yin, Ne.symm p, gs.tri y yin⟩
      · obtain ⟨a, ha, ea⟩ := List.mem_map.mp hy
        have p := gs.pro a ha
        have yin := (gs.ok.mem _ hy).1
        rw [ea] at p
        exact ⟨yin, p, gs.tri y yin⟩
    refine rd_split (fun c => ?_) (fun c => ?_)
    · rw [if_pos c] at q
      wtm_at "rd"
      refine rd_dat (.inl gs.st) (kvF_val (gs.inO _ xin)) rfl ?_
      wtm_at "rd"
      refine ⟨g, n, e, x, ns, es, rfl, gs.gr, Nat.le_trans gs.l3 (by decide), (fun y hy => gs.grs.ne _ (List.mem_map_of_mem hy)), fun l H1 s1 fl hl => ?_⟩
      have nl : (nbrF (es.map (·.2)) x).length ≤ 2000 := by
        have := nbrF_len (x := x) (es := es.map (·.2))
        have := gs.l3
        rw [List.length_map] at *
        omega
      have srt : ∀ ys : List Str, ys.Perm ((nbrF (es.map (·.2)) x).filter fun o => decide (slp f x o = -1)) → (ys.Pairwise fun a b => ¬ sLt b a) → ys = (nbS (es.map (·.2)) x).filter fun o => decide (slp f x o = -1) := fun ys pm s => wait_sort gs.ok pm s
      generalize nbrF (es.map (·.2)) x = zs at *
      wtm_at "rd"
      refine ⟨l, rfl, ⟨_, SqL.of hl⟩, ?_⟩
      intro D fD
      refine lcL (K := K) (xs := zs.map V.str) (fun i H' => Same H1 H' ∧ H' D = some (.lst (((zs.take i).filter fun o => decide (slp f x o = -1)).map V.str))) ⟨Same.new fD, upd_same⟩ ?_ ?_ ?_
      · rintro i H' hi ⟨s2, _⟩
        exact SqL.of (s2 _ _ hl)
      · rintro i y H' hy ⟨s2, hD⟩
        obtain ⟨hi, rfl⟩ := map_at hy
        obtain ⟨yin, yne, y0, y3⟩ := adj _ (List.getElem_mem hi)
        have lt : ((zs.take i).filter fun o => decide (slp f x o = -1)).length ≤ 2000 := Nat.le_trans (List.length_filter_le _ _) (by rw [List.length_take]; omega)
        rw [take_snoc hi, List.filter_append, List.map_append]
        generalize zs[i] = y at *
        have iff1 : slp f x y = -1 ↔ f y = (f x + 2) % 3 := by
          unfold slp
          split
          · constructor
            · intro z
              omega
            · intro z
              omega
          · constructor
            · intro z
              omega
            · intro z
              omega
        wtm_at "rd"
        refine rd_dat (.inl (s2 _ _ (s1 _ _ gs.st))) (kvF_val (gs.inO _ yin)) rfl ?_
        wtm_at "rd"
        refine rd_split (fun k => ?_) (fun k => ?_)
        · rw [List.filter_cons, if_pos (decide_eq_true (iff1.mpr k))]
          wtm_at "rd"
          refine rd_acc hD (by rw [List.length_map]; omega) ?_
          exact ⟨same_put s2 fD, upd_same⟩
        · rw [List.filter_cons, if_neg (by rw [decide_eq_false fun z => k (iff1.mp z)]; exact Bool.false_ne_true)]
          exact ⟨s2, hD.trans (by rw [List.filter_nil, List.map_nil, List.append_nil])⟩
      rintro H2 ⟨s2, hD⟩
      rw [List.length_map, List.take_length] at hD
      have fl2 : (zs.filter fun o => decide (slp f x o = -1)).length ≤ 2000 := Nat.le_trans (List.length_filter_le _ _) nl
      wtm_at "rd"
      refine rd_sortS (SqL.of hD) (by omega) fun ys pm s => ?_
      obtain rfl := srt ys pm s
      intro r fr
      exact q r _ ((s1.trans s2).trans (Same.new fr)) (free_same (s1.trans s2) fr) upd_same
    · rw [if_neg c] at q
      wtm_at "rd"
      refine rd_dat (.inl gs.st) (kvF_val (gs.inO _ xin)) rfl ?_
      wtm_at "rd"
      refine ⟨g, n, e, x, ns, es, rfl, gs.gr, Nat.le_trans gs.l3 (by decide), (fun y hy => gs.grs.ne _ (List.mem_map_of_mem hy)), fun l H1 s1 fl hl => ?_⟩
      have nl : (nbrF (es.map (·.2)) x).length ≤ 2000 := by
        have := nbrF_len (x := x) (es := es.map (·.2))
        have := gs.l3
        rw [List.length_map] at *
        omega
      have srt : ∀ ys : List Str, ys.Perm ((nbrF (es.map (·.2)) x).filter fun o => decide (slp f x o = 1)) → (ys.Pairwise fun a b => ¬ sLt b a) → ys = (nbS (es.map (·.2)) x).filter fun o => decide (slp f x o = 1) := fun ys pm s => wait_sort gs.ok pm s
      generalize nbrF (es.map (·.2)) x = zs at *
      wtm_at "rd"
      refine ⟨l, rfl, ⟨_, SqL.of hl⟩, ?_⟩
      intro D fD
      refine lcL (K := K) (xs := zs.map V.str) (fun i H' => Same H1 H' ∧ H' D = some (.lst (((zs.take i).filter fun o => decide (slp f x o = 1)).map V.str))) ⟨Same.new fD, upd_same⟩ ?_ ?_ ?_
      · rintro i H' hi ⟨s2, _⟩
        exact SqL.of (s2 _ _ hl)
      · rintro i y H' hy ⟨s2, hD⟩
        obtain ⟨hi, rfl⟩ := map_at hy
        obtain ⟨yin, yne, y0, y3⟩ := adj _ (List.getElem_mem hi)
        have lt : ((zs.take i).filter fun o => decide (slp f x o = 1)).length ≤ 2000 := Nat.le_trans (List.length_filter_le _ _) (by rw [List.length_take]; omega)
        rw [take_snoc hi, List.filter_append, List.map_append]
        generalize zs[i] = y at *
        have iff1 : slp f x y = 1 ↔ f y = (f x + 1) % 3 := by
          unfold slp
          split
          · constructor
            · intro z
              omega
            · intro z
              omega
          · constructor
            · intro z
              omega
            · intro z
              omega
        wtm_at "rd"
        refine rd_dat (.inl (s2 _ _ (s1 _ _ gs.st))) (kvF_val (gs.inO _ yin)) rfl ?_
        wtm_at "rd"
        refine rd_split (fun k => ?_) (fun k => ?_)
        · rw [List.filter_cons, if_pos (decide_eq_true (iff1.mpr k))]
          wtm_at "rd"
          refine rd_acc hD (by rw [List.length_map]; omega) ?_
          exact ⟨same_put s2 fD, upd_same⟩
        · rw [List.filter_cons, if_neg (by rw [decide_eq_false fun z => k (iff1.mp z)]; exact Bool.false_ne_true)]
          exact ⟨s2, hD.trans (by rw [List.filter_nil, List.map_nil, List.append_nil])⟩
      rintro H2 ⟨s2, hD⟩
      rw [List.length_map, List.take_length] at hD
      have fl2 : (zs.filter fun o => decide (slp f x o = 1)).length ≤ 2000 := Nat.le_trans (List.length_filter_le _ _) nl
      wtm_at "rd"
      refine rd_sortS (SqL.of hD) (by omega) fun ys pm s => ?_
      obtain rfl := srt ys pm s
      intro r fr
      exact q r _ ((s1.trans s2).trans (Same.new fr)) (free_same (s1.trans s2) fr) upd_same
theorem ok_unusedE {f : Addr} {fd : FuncData} (F : Fun K "_law_unused_name" "_law_unused_name" s__law_unused_name f fd) (B : Bt mg) : FnG P w K mg base CX0 1 f fd ["_law_graph"] spUnusedE := by
  refine fnG0 F sc__law_unused_name (fun vs H Q E h => ?_) (fun cdv A outer s H vs Q E hr h => ?_)
  · obtain ⟨g, n, e, ns, rfl, _⟩ := h
    rfl
  · obtain ⟨g, n, e, ns, rfl, hg, hn, l, q⟩ := h
    have nd := sc__law_unused_name.nd
    have hu := hr.u1
    refine ⟨_, (pss_one (ps_ret (pe_ix (kIx K rfl) (pe_lc (own := [("_law_letter", 1)]) rfl nd (pi_str pe_str) (blkOk_by (own := [("_law_letter", 1)]) (N := nN__law_unused_name) (sc := defScope s__law_unused_name) (by decide +kernel)) (fun _ _ _ _ _ => (pg_name (i := 1) nd rfl (by first | exact Or.inl rfl | exact Or.inr rfl))) (fun _ _ _ _ _ => (pts_one (pt_cmpR (kNotIn K rfl) (pv 1) (pe_ix (kIx K rfl) (pv 0) pe_int (fun _ _ => rfl)) rfl))) (fun _ _ _ _ _ => (pv 1))) pe_int (fun _ _ => rfl)))), ?_⟩
    wtm_at "rd"
    refine ⟨abcS, rfl, ?_⟩
    intro D fD
    refine lc_it walk_str (fun i H2 => Same H H2 ∧ H2 D = some (.lst ((((abcS.cps.toList.take i).map chS).filter fun x => !decide (x ∈ ns)).map V.str))) ⟨Same.new fD, upd_same⟩ (fun _ _ _ _ => trivial) ?_ ?_
    · rintro i y H2 H3 hi ⟨s, hD⟩ ⟨rfl, c, hc, rfl⟩
      have hc2 : abcS.cps.toList[i]? = some c := by rw [Array.getElem?_toList]; exact hc
      have tk : (abcS.cps.toList.take (i + 1)).map chS = (abcS.cps.toList.take i).map chS ++ [chS c] := by
        rw [List.take_succ, hc2, List.map_append]
        rfl
      have len : (((abcS.cps.toList.take i).map chS).filter fun x => !decide (x ∈ ns)).length ≤ 26 := by
        refine Nat.le_trans (List.length_filter_le _ _) ?_
        rw [List.length_map, abc_cps]
        exact Nat.le_trans (List.length_take_le' _ _) (by rw [List.length_map, List.length_range]; exact Nat.le_refl _)
      show _
      rw [tk, List.filter_append, List.map_append]
      show gName _ (V.str (chS c)) _ _ _
      wtm_at "rd"
      refine rd_ixT (SqT.of (s _ _ hg)) (v := .ref n) rfl ?_
      wtm_at "rd"
      refine rd_ninST (SqT.of (s _ _ hn)) ?_
      wtm_at "rd"
      by_cases hx : chS c ∈ ns
      · have e1 : ([chS c].filter fun x => !decide (x ∈ ns)) = [] := by simp [hx]
        rw [e1, List.map_nil, List.append_nil, if_neg (by simp [hx])]
        exact ⟨s, hD⟩
      · have e1 : ([chS c].filter fun x => !decide (x ∈ ns)) = [chS c] := by simp [hx]
        rw [e1, if_pos (by simp [hx])]
        wtm_at "rd"
        refine ⟨_, hD, by rw [List.length_map]; exact Nat.lt_of_le_of_lt len (by decide), fun b o hb => ?_, upd_same⟩
        have nb : b ≠ D := fun z => by
          rw [z, fD] at hb
          exact nomatch hb
        rw [upd_ne nb]
        exact s _ _ hb
    · rintro H2 ⟨s, hD⟩
      obtain ⟨x, r, e, nx, ix⟩ := letter_left l
      have tk : abcS.cps.toList.take abcS.cps.size = abcS.cps.toList := List.take_of_length_le (by rw [Array.length_toList]; exact Nat.le_refl _)
      rw [tk, e, List.map_cons] at hD
      wtm_at "rd"
      refine rd_ixL (SqL.of hD) (v := .str x) (by simp [atI, ixN]) ?_
      have eu : unF ns = x := by
        unfold unF
        rw [e]
        rfl
      rw [eu] at q
      exact q H2 s nx ix
end
end Law

/-! k87: the nodes that need not wait are those with a progress move -/
namespace Law
open PySem PySem.Spec PyProof.Rows L2 U
def abF (es : List (Str × Str)) (f h : Str → Int) (x : Str) : List (Str × Int) := if h x ≠ 0 ∧ waitF es f h x = [] then [(x, if 0 < h x then (f x + 2) % 3 else (f x + 1) % 3)] else []
theorem wait_nil {es : List (Str × Str)} {f h : Str → Int} {x : Str} (n : h x ≠ 0) : waitF es f h x = [] ↔ ∀ o ∈ nbS es x, slp f x o = dirU (h x) := by
  unfold waitF
  rw [if_neg n, List.filter_eq_nil_iff]
  constructor
  · intro q o ho
    have := q o ho
    rw [decide_eq_true_iff] at this
    unfold dirU
    rcases slp_pm f x o with e | e
    · rw [e] at this ⊢
      split at this
      · rename_i c
        rw [if_pos c]
      · exact absurd rfl this
    · rw [e] at this ⊢
      split at this
      · exact absurd rfl this
      · rename_i c
        rw [if_neg c]
  · intro q o ho z
    rw [decide_eq_true_iff] at z
    have := q o ho
    unfold dirU at this
    rw [z] at this
    split at this
    · exact absurd this (by decide)
    · exact absurd this (by decide)
theorem able_prog {ns : List Str} {es : List (Str × Str)} {f h : Str → Int} {pn : List Str} (ok : EsOk ns es f) (pin : ∀ x ∈ pn, h x = 0) : ns.flatMap (abF es f h) = progF ns es f h pn := by
  rw [prog_eq ok fun _ h => h]
  congr 1
  funext x
  unfold abF pmF U.pvF
  by_cases n : h x = 0
  · rw [if_neg (show ¬ (h x ≠ 0 ∧ waitF es f h x = []) from fun z => z.1 n), if_neg (show ¬ (h x ≠ 0 ∧ ∀ o ∈ nbS es x, slp f x o = dirU (h x)) from fun z => z.1 n)]
  · have np : x ∉ pn := fun z => n (pin x z)
    by_cases c : ∀ o ∈ nbS es x, slp f x o = dirU (h x)
    · rw [if_pos (show h x ≠ 0 ∧ waitF es f h x = [] from ⟨n, (wait_nil n).mpr c⟩), if_pos (show h x ≠ 0 ∧ ∀ o ∈ nbS es x, slp f x o = dirU (h x) from ⟨n, c⟩)]
      dsimp only
      rw [if_neg np]
      congr 2
      unfold dirU
      split <;> omega
    · rw [if_neg (show ¬ (h x ≠ 0 ∧ waitF es f h x = []) from fun z => c ((wait_nil n).mp z.2)), if_neg (show ¬ (h x ≠ 0 ∧ ∀ o ∈ nbS es x, slp f x o = dirU (h x)) from fun z => c z.2)]
end Law

/-! which own error is caught by which handler -/
namespace U
open PySem PySem.Spec PyProof.Rows L2
theorem exm_subE {K : PySem.W.Frag} {S T : Addr} (h1 : PySem.W.subIn K (.ref S) (.type "BaseException") = some true) (b1 : PySem.W.subIn K (.ref T) (.type "BaseException") = some true) (h2 : PySem.W.isClsIn K T = true) (h3 : PySem.W.typeIn K (.ref T) = some (.type "type")) {b : Bool} (h4 : PySem.W.subIn K (.ref S) (.ref T) = some b) :
    PySem.W.exmOne K (.ref S) (.ref T) = some b := by
  have e1 : (PySem.W.subIn K (.ref T) (.type "BaseException") == some true) = true := by rw [b1] <;> rfl
  have e2 : ((PySem.W.clsIn K T).isSome && PySem.W.typeIn K (.ref T) == some (.type "type")) = true := by
    have h2' : (PySem.W.clsIn K T).isSome = true := h2
    rw [h2', h3] <;> rfl
  show (if (PySem.W.subIn K (.ref T) (.type "BaseException") == some true) = true then (if ((PySem.W.clsIn K T).isSome && PySem.W.typeIn K (.ref T) == some (.type "type")) = true then PySem.W.subIn K (.ref S) (.ref T) else none) else none) = _
  rw [if_pos e1, if_pos e2]
  exact h4
end U

/-! what the Team laws keep beside: _law_progress_value, _law_perform, _law_available_of, _law_expected_moves, _law_maybe_pin -/
namespace Law
open PySem PySem.Spec PyProof.Rows L2 U LamX


local macro_rules | `(tactic| wtm_at "rd1") => `(tactic| first | with_reducible refine rd_fld ?_ | with_reducible refine rd_mG ?_ | with_reducible refine rd_sFld ?_ | with_reducible refine rd_sAug ?_ | with_reducible refine rd_gFld ?_)
/-- the value of x in a progress move -/
def pvF (es : List (Str × Str)) (f h : Str → Int) (pn : List Str) (x : Str) : Option Int := if h x ≠ 0 ∧ (if 0 < h x then (f x + 2) % 3 else (f x + 1) % 3) ∈ possF es f pn x then some (if 0 < h x then (f x + 2) % 3 else (f x + 1) % 3) else none
theorem RndsAt.put {H : Hp} {l : Addr} {xs ys : List V} {rs : List (Addr × List (Addr × Str × Int))} (h : RndsAt H rs) (hl : H l = some (.lst xs)) (n : ∀ r ∈ rs, r.1 ≠ l) : RndsAt (upd H l (.lst ys)) rs := fun r hr => ⟨at_upd (n r hr) (h r hr).1, (h r hr).2.put hl⟩
section
variable {P : Program} {w : World} {K : PySem.W.Frag} {mg : Str → Option Value} {base : Heap}
end
end Law

/-! the draws' source beside objects that are changed in place; k85's _law_maybe_pin -/
namespace Law
open PySem PySem.Spec PyProof.Rows L2 U LamX


local macro_rules | `(tactic| wtm_at "rd1") => `(tactic| first | with_reducible refine rd_fld ?_ | with_reducible refine rd_mG ?_ | with_reducible refine rd_sFld ?_ | with_reducible refine rd_sAug ?_ | with_reducible refine rd_gFld ?_)
/-- the source stands, and none of S is it or its list -/
def PoolX (H : Hp) (p : Addr) (S : List Addr) : Prop := ∃ c xs, SrcAt H p c xs ∧ ∀ b ∈ S, b ≠ p ∧ b ≠ c
theorem srcO_inj {c c' pos big seed pos' big' seed' : _} (h : srcO c pos big seed = srcO c' pos' big' seed') : c = c' := by
  unfold srcO at h
  have e := HO.lst.inj h
  injection e with e1 _
  exact V.ref.inj e1
section
variable {H H' : Hp} {p : Addr} {S : List Addr}
theorem PoolX.pool (x : PoolX H p S) : PoolAt H p := let ⟨c, xs, h, _⟩ := x; ⟨c, xs, h⟩
theorem PoolX.nil (h : PoolAt H p) : PoolX H p [] := let ⟨c, xs, h⟩ := h; ⟨c, xs, h, fun b hb => nomatch hb⟩
theorem PoolX.add {b : Addr} (x : PoolX H p S) (f : H b = none) : PoolX H p (b :: S) := by
  obtain ⟨c, xs, ⟨pos, big, seed, h1, h2, h3⟩, off⟩ := x
  refine ⟨c, xs, ⟨pos, big, seed, h1, h2, h3⟩, fun a ha => ?_⟩
  rcases List.mem_cons.mp ha with rfl | ha
  · exact ⟨(fun z => by rw [z, h1] at f; cases f), (fun z => by rw [z, h2] at f; cases f)⟩
  · exact off a ha
theorem PoolX.addN {b : Addr} (x : PoolX H p S) (f : NewN H b) : PoolX H p (b :: S) := by
  obtain ⟨c, xs, ⟨pos, big, seed, h1, h2, h3⟩, off⟩ := x
  refine ⟨c, xs, ⟨pos, big, seed, h1, h2, h3⟩, fun a ha => ?_⟩
  rcases List.mem_cons.mp ha with rfl | ha
  · exact ⟨Ne.symm (f _ _ h1 fun _ z => nomatch z), Ne.symm (f _ _ h2 fun _ z => nomatch z)⟩
  · exact off a ha
theorem PoolX.keep (x : PoolX H p S) (k : ∀ b o, b ∉ S → H b = some o → (∀ ps, o ≠ .tbl ps) → H' b = some o) : PoolX H' p S := by
  obtain ⟨c, xs, ⟨pos, big, seed, h1, h2, h3⟩, off⟩ := x
  exact ⟨c, xs, ⟨pos, big, seed, k _ _ (fun z => (off p z).1 rfl) h1 (fun _ z => nomatch z), k _ _ (fun z => (off c z).2 rfl) h2 (fun _ z => nomatch z), h3⟩, off⟩
theorem PoolX.same (x : PoolX H p S) (s : Same H H') : PoolX H' p S := x.keep fun b o _ h _ => s b o h
theorem PoolX.ext (x : PoolX H p S) (s : ExtN H H') : PoolX H' p S := x.keep fun b o _ h n => s b o h n
theorem PoolX.go (x : PoolX H p S) (g : Go p H H') : PoolX H' p S := by
  obtain ⟨c, xs, ⟨pos, big, seed, h1, h2, h3⟩, off⟩ := x
  obtain ⟨c', xs', pos', big', seed', g1, g2, g3⟩ := g.pool
  obtain ⟨_, p2, b2, s2, e⟩ := g.cell _ _ _ _ g1
  rw [h1] at e
  obtain rfl := srcO_inj (Option.some.inj e)
  exact ⟨c, xs', ⟨pos', big', seed', g1, g2, g3⟩, off⟩
end
theorem TmAt.of {C : Addr} {H H' : Hp} {m : Tm} (a : TmAt C H m) (k : ∀ b o, (b = m.t ∨ b = m.cu ∨ b = m.re ∨ b = m.kw ∨ b = m.ow ∨ b = m.en) → H b = some o → H' b = some o) : TmAt C H' m :=
  ⟨k _ _ (.inl rfl) a.ins, k _ _ (.inr (.inl rfl)) a.cu, k _ _ (.inr (.inr (.inl rfl))) a.re, k _ _ (.inr (.inr (.inr (.inl rfl)))) a.kw, k _ _ (.inr (.inr (.inr (.inr (.inl rfl))))) a.ow, k _ _ (.inr (.inr (.inr (.inr (.inr rfl))))) a.en, a.n1, a.n2, a.n3⟩
theorem TmAt.go {C p : Addr} {H H' : Hp} {m : Tm} {S : List Addr} (a : TmAt C H m) (x : PoolX H p S) (n1 : m.kw ∈ S) (n2 : m.en ∈ S) (g : Go p H H') : TmAt C H' m := a.of fun b o hb h => by
  obtain ⟨c, xs, ⟨pos, big, seed, h1, h2, h3⟩, off⟩ := x
  refine g.but b o ?_ h
  rintro rfl
  have li : ∃ ys, o = .lst ys := ⟨_, (Option.some.inj (h.symm.trans h1))⟩
  obtain ⟨ys, rfl⟩ := li
  rcases hb with e | e | e | e | e | e
  · rw [e, a.ins] at h; cases h
  · rw [e, a.cu] at h; cases h
  · rw [e, a.re] at h; cases h
  · exact (off _ n1).1 e.symm
  · rw [e, a.ow] at h; cases h
  · exact (off _ n2).1 e.symm
section
variable {P : Program} {w : World} {K : PySem.W.Frag} {mg : Str → Option Value} {base : Heap}
end
end Law

/-! tuples, lists and dicts within each other: equal, so not unequal -/
namespace U
open PySem PySem.Spec PyProof.Rows L2 SeqAt
open MeetsSeq MeetsSeq2 MeetsSeq3
section
variable {P : Program} {w : World}
theorem teq_run (t1 t2 : Addr) (xs ys : Array Value) (m1 m2 : Nat) (e1 e2 : Option Addr) (c1 c2 : Array (Option Value)) (sz : xs.size = ys.size) :
    MeetsIn P w (Builtin.«tuple.__eq__» ⟨[.ref t1, .ref t2], []⟩) (fun A R s => s.heap.get? t1 = some ⟨.type "tuple", e1, .seq xs m1, c1⟩ ∧ s.heap.get? t2 = some ⟨.type "tuple", e2, .seq ys m2, c2⟩ ∧
      (∀ j (ha : j < xs.size) (hb : j < ys.size), EqP P w A.in1 s xs[j] ys[j] true) ∧ R (.ok (.ret (.bool true))) s) := by
  rintro A R ⟨hp, g, d, tk, os⟩ ⟨hl, hb, he, hR⟩
  have st := AutoSeq1.sub_tuple_tuple
  wp_walk using AutoSeq1.wpAny_loadPart' hl, AutoSeq1.wpAny_loadPart' hb, wpAny_forIn_list _ (fun rest b s' => b.1 = none ∧ s' = ⟨hp, g, d, tk, os⟩ ∧ ∃ i, rest = (xs.toList.zip ys.toList).drop i) _
  case turn =>
    rintro ⟨y, x⟩ rest b s' ⟨hn, rfl, i, hz⟩
    have hm : i < xs.size := Nat.lt_of_not_le fun q => by
      rw [List.drop_of_length_le (by simp; omega)] at hz
      cases hz
    rw [List.drop_eq_getElem_cons (by simp; omega)] at hz
    injection hz with h1 h2
    have hx : y = xs[i] ∧ x = ys[i] := by simpa using h1
    rw [hx.1, hx.2]
    refine wpAny_bind (he i hm (by omega) _ _ ?_)
    wp_walk
    exact ⟨rfl, rfl, i + 1, h2⟩
  case fin =>
    rintro ⟨b1, b2⟩ s' ⟨hn, rfl, i, hz⟩
    cases (show b1 = none from hn)
    wp_walk
    show R (.ok (.ret (Builtin.Tuple.tupleCompareSizes .Eq xs.size ys.size))) _
    rw [sz, show Builtin.Tuple.tupleCompareSizes .Eq ys.size ys.size = .bool true from by simp [Builtin.Tuple.tupleCompareSizes, bne]]
    exact hR
  case h =>
    exact ⟨rfl, rfl, 0, rfl⟩
theorem tne_run (t1 t2 : Addr) (xs ys : Array Value) (m1 m2 : Nat) (e1 e2 : Option Addr) (c1 c2 : Array (Option Value)) (sz : xs.size = ys.size) :
    MeetsIn P w (Builtin.«tuple.__ne__» ⟨[.ref t1, .ref t2], []⟩) (fun A R s => s.heap.get? t1 = some ⟨.type "tuple", e1, .seq xs m1, c1⟩ ∧ s.heap.get? t2 = some ⟨.type "tuple", e2, .seq ys m2, c2⟩ ∧
      (∀ j (ha : j < xs.size) (hb : j < ys.size), EqP P w A.in1 s xs[j] ys[j] true) ∧ R (.ok (.ret (.bool false))) s) := by
  rintro A R ⟨hp, g, d, tk, os⟩ ⟨hl, hb, he, hR⟩
  have st := AutoSeq1.sub_tuple_tuple
  wp_walk using AutoSeq1.wpAny_loadPart' hl, AutoSeq1.wpAny_loadPart' hb, wpAny_forIn_list _ (fun rest b s' => b.1 = none ∧ s' = ⟨hp, g, d, tk, os⟩ ∧ ∃ i, rest = (xs.toList.zip ys.toList).drop i) _
  case turn =>
    rintro ⟨y, x⟩ rest b s' ⟨hn, rfl, i, hz⟩
    have hm : i < xs.size := Nat.lt_of_not_le fun q => by
      rw [List.drop_of_length_le (by simp; omega)] at hz
      cases hz
    rw [List.drop_eq_getElem_cons (by simp; omega)] at hz
    injection hz with h1 h2
    have hx : y = xs[i] ∧ x = ys[i] := by simpa using h1
    rw [hx.1, hx.2]
    refine wpAny_bind (he i hm (by omega) _ _ ?_)
    wp_walk
    exact ⟨rfl, rfl, i + 1, h2⟩
  case fin =>
    rintro ⟨b1, b2⟩ s' ⟨hn, rfl, i, hz⟩
    cases (show b1 = none from hn)
    wp_walk
    show R (.ok (.ret (Builtin.Tuple.tupleCompareSizes .NotEq xs.size ys.size))) _
    rw [sz, show Builtin.Tuple.tupleCompareSizes .NotEq ys.size ys.size = .bool false from by simp [Builtin.Tuple.tupleCompareSizes, bne]]
    exact hR
  case h =>
    exact ⟨rfl, rfl, 0, rfl⟩
theorem lne_loop (t1 t2 : Addr) (xs ys : Array Value) (m1 m2 : Nat) (e1 e2 : Option Addr) (c1 c2 : Array (Option Value)) (sz : xs.size = ys.size) (k : Nat) : ∀ i : Nat, xs.size - i = k →
    MeetsIn P w (Builtin.«list.__eq__.loop» ⟨[.ref t1, .ref t2, rawInt i, rawInt 3], []⟩) (fun A R s => s.heap.get? t1 = some ⟨.type "list", e1, .seq xs m1, c1⟩ ∧ s.heap.get? t2 = some ⟨.type "list", e2, .seq ys m2, c2⟩ ∧
      (∀ j (ha : j < xs.size) (hb : j < ys.size), EqP P w A.in1 s xs[j] ys[j] true) ∧ R (.ok (.ret (.bool false))) s) := by
  induction k with
  | zero =>
    rintro i hk A R ⟨hp, g, d, tk, os⟩ ⟨hl, hb, he, hR⟩
    wp_walk using AutoSeq1.wpAny_loadPart' hl, AutoSeq1.wpAny_loadPart' hb
    rw [show xs[((i : Nat) : Int).toNat]? = none by simp; omega, show ys[((i : Nat) : Int).toNat]? = none by simp; omega]
    wp_walk using AutoSeq1.wpAny_loadPart' hl, AutoSeq1.wpAny_loadPart' hb
    show R (.ok (.ret (.bool (xs.size != ys.size)))) _
    rw [sz, show (ys.size != ys.size) = false by simp]
    exact hR
  | succ k ih =>
    rintro i hk A R ⟨hp, g, d, tk, os⟩ ⟨hl, hb, he, hR⟩
    wp_walk using AutoSeq1.wpAny_loadPart' hl, AutoSeq1.wpAny_loadPart' hb
    have h1 : i < xs.size := by omega
    have h2 : i < ys.size := by omega
    rw [show xs[((i : Nat) : Int).toNat]? = some xs[i] by simp [h1], show ys[((i : Nat) : Int).toNat]? = some ys[i] by simp [h2]]
    refine wpAny_bind (he i h1 h2 _ _ ?_)
    wp_walk
    rw [show ((i : Int) + 1) = ((i + 1 : Nat) : Int) by omega]
    refine ⟨plainId_quiet plain_eq_loop _, codeAny_builtin entry_eq_loop ?_⟩
    rw [Around.under_plainId plain_eq_loop _]
    exact ih (i + 1) (by omega) A R _ ⟨hl, hb, he, hR⟩
theorem lne_run (t1 t2 : Addr) (xs ys : Array Value) (m1 m2 : Nat) (e1 e2 : Option Addr) (c1 c2 : Array (Option Value)) (sz : xs.size = ys.size) :
    MeetsIn P w (Builtin.«list.__ne__» ⟨[.ref t1, .ref t2], []⟩) (fun A R s => s.heap.get? t1 = some ⟨.type "list", e1, .seq xs m1, c1⟩ ∧ s.heap.get? t2 = some ⟨.type "list", e2, .seq ys m2, c2⟩ ∧
      (∀ j (ha : j < xs.size) (hb : j < ys.size), EqP P w A.in1 s xs[j] ys[j] true) ∧ R (.ok (.ret (.bool false))) s) := by
  rintro A R ⟨hp, g, d, tk, os⟩ ⟨hl, hb, he, hR⟩
  have st := AutoSeq1.sub_list_list
  have hne : ¬ (xs.size != ys.size) = true := by simp [sz]
  wp_walk using AutoSeq1.wpAny_loadPart' hl, AutoSeq1.wpAny_loadPart' hb
  refine ⟨plainId_quiet plain_eq_loop _, codeAny_builtin entry_eq_loop ?_⟩
  rw [Around.under_plainId plain_eq_loop _]
  exact lne_loop t1 t2 xs ys m1 m2 e1 e2 c1 c2 sz _ 0 rfl A R _ ⟨hl, hb, he, hR⟩
section
variable {A : Around} {s : Shared} {t1 t2 : Addr} {xs ys : Array Value} {E Q : Value → Shared → Prop}
theorem rcP_teq (hl : s.heap.IsTuple t1 xs) (hb : s.heap.IsTuple t2 ys) (sz : xs.size = ys.size) (hu : A.units < cLine) (he : ∀ j (ha : j < xs.size) (hb : j < ys.size), EqP P w A.in1 s xs[j] ys[j] true) (h : Q (.bool true) s) :
    wpAny (model P w) A (richCompare .Eq (.ref t1) (.ref t2)) Q E s := by
  obtain ⟨⟨_, e1, _, c1⟩, g1, rfl, m1, rfl⟩ := id hl
  obtain ⟨⟨_, e2, _, c2⟩, g2, rfl, m2, rfl⟩ := id hb
  have a1 : s.TypeIs (.ref t1) "tuple" := ⟨_, g1, rfl⟩
  have a2 : s.TypeIs (.ref t2) "tuple" := ⟨_, g2, rfl⟩
  exact wpAny_richCompare_same_room (op := .Eq) a1 a2 F.slot_tuple_eq (call_meetsIn F.slot_tuple_eq a1 F.entry_tuple_eq (F.args_tuple_eq_2 _ _) (teq_run t1 t2 xs ys m1 m2 e1 e2 c1 c2 sz) ⟨g1, g2, he, ⟨(fun z => nomatch z), h⟩⟩) hu
theorem rcP_tne (hl : s.heap.IsTuple t1 xs) (hb : s.heap.IsTuple t2 ys) (sz : xs.size = ys.size) (hu : A.units < cLine) (he : ∀ j (ha : j < xs.size) (hb : j < ys.size), EqP P w A.in1 s xs[j] ys[j] true) (h : Q (.bool false) s) :
    wpAny (model P w) A (richCompare .NotEq (.ref t1) (.ref t2)) Q E s := by
  obtain ⟨⟨_, e1, _, c1⟩, g1, rfl, m1, rfl⟩ := id hl
  obtain ⟨⟨_, e2, _, c2⟩, g2, rfl, m2, rfl⟩ := id hb
  have a1 : s.TypeIs (.ref t1) "tuple" := ⟨_, g1, rfl⟩
  have a2 : s.TypeIs (.ref t2) "tuple" := ⟨_, g2, rfl⟩
  exact wpAny_richCompare_same_room (op := .NotEq) a1 a2 F.slot_tuple_ne (call_meetsIn F.slot_tuple_ne a1 F.entry_tuple_ne (F.args_tuple_ne_2 _ _) (tne_run t1 t2 xs ys m1 m2 e1 e2 c1 c2 sz) ⟨g1, g2, he, ⟨(fun z => nomatch z), h⟩⟩) hu
theorem rcP_lne (hl : s.heap.IsList t1 xs) (hb : s.heap.IsList t2 ys) (sz : xs.size = ys.size) (hu : A.units < cLine) (he : ∀ j (ha : j < xs.size) (hb : j < ys.size), EqP P w A.in1 s xs[j] ys[j] true) (h : Q (.bool false) s) :
    wpAny (model P w) A (richCompare .NotEq (.ref t1) (.ref t2)) Q E s := by
  obtain ⟨⟨_, e1, _, c1⟩, g1, rfl, m1, rfl⟩ := id hl
  obtain ⟨⟨_, e2, _, c2⟩, g2, rfl, m2, rfl⟩ := id hb
  have a1 : s.TypeIs (.ref t1) "list" := ⟨_, g1, rfl⟩
  have a2 : s.TypeIs (.ref t2) "list" := ⟨_, g2, rfl⟩
  exact wpAny_richCompare_same_room (op := .NotEq) a1 a2 F.slot_list_ne (call_meetsIn F.slot_list_ne a1 F.entry_list_ne (F.args_list_ne_2 _ _) (lne_run t1 t2 xs ys m1 m2 e1 e2 c1 c2 sz) ⟨g1, g2, he, ⟨(fun z => nomatch z), h⟩⟩) hu
end
end
/-- equal in each other's items: two tuples, two lists, two dicts -/
def EqT1 (K : PySem.W.Frag) (H : Hp) (E : V → V → Prop) (x y : V) : Prop := (∃ a b xs ys, x = .ref a ∧ y = .ref b ∧ SqT K H a xs ∧ SqT K H b ys ∧ Paired E xs ys) ∨ EqR K H E x y
/-- equal, of nesting below n -/
def EqT (K : PySem.W.Frag) (H : Hp) : Nat → V → V → Prop
  | 0 => fun _ _ => False
  | n + 1 => fun x y => (x = y ∧ flatB x = true) ∨ (∃ a, x = .ref a ∧ y = .ref a) ∨ EqT1 K H (EqT K H n) x y
section
variable {X : Cx} {pins : List (Addr × Obj)} {σ : L2.St} {H : Hp} {s : Shared}
theorem eqT1_run (I : Inv X pins σ H s) {A : Around} {F : V → V → Prop} (hu : A.units < cLine) (ih : ∀ x y v u, F x y → RelV x v → RelV y u → EqP X.prog X.w A.in1 s v u true) {x y : V} {v u : Value} (h : EqT1 X.K H F x y) (rx : RelV x v) (ry : RelV y u)
    (E Q : Value → Shared → Prop) (q : Q (.bool true) s) : wpAny (model X.prog X.w) A (richCompare .Eq v u) Q E s := by
  rcases h with ⟨a, b, xs, ys, rfl, rfl, ha, hb, hp⟩ | h
  · cases (show v = Value.ref a from rx)
    cases (show u = Value.ref b from ry)
    obtain ⟨us, r1, p1, _⟩ := I.tuple ha
    obtain ⟨ws, r2, p2, _⟩ := I.tuple hb
    have hsz : us.toArray.size = ws.toArray.size := by
      rw [List.size_toArray, List.size_toArray, ← r1.length, ← r2.length]
      exact Paired.length hp
    exact rcP_teq p1 p2 hsz hu (fun j h1 h2 => by simpa using items_run ih hp r1 r2 j (by simpa using h1) (by simpa using h2)) q
  · exact eqR_run I hu ih h rx ry E Q q
theorem eqT1_refs {K : PySem.W.Frag} {F : V → V → Prop} {x y : V} (h : EqT1 K H F x y) : ∃ a b, x = .ref a ∧ y = .ref b := by
  rcases h with ⟨a, b, _, _, e1, e2, _⟩ | ⟨a, b, _, _, e1, e2, _⟩ | ⟨a, b, _, _, e1, e2, _⟩ <;> exact ⟨a, b, e1, e2⟩
theorem eqT_run (I : Inv X pins σ H s) : ∀ (n : Nat) (A : Around), A.units + n < cLine → ∀ (x y : V) (v u : Value), EqT X.K H n x y → RelV x v → RelV y u → EqP X.prog X.w A s v u true
  | 0, _, _, _, _, _, _, h, _, _ => (show False from h).elim
  | n + 1, A, hu, x, y, v, u, h, rx, ry => by
    rcases h with ⟨rfl, f⟩ | ⟨a, rfl, rfl⟩ | h
    · exact (eqAt_same rx ry f).eqP
    · cases (show v = Value.ref a from rx)
      cases (show u = Value.ref a from ry)
      exact (EqAt.same _).eqP
    · have step := eqT1_run I (A := A) (by omega) (eqT_run I n A.in1 (by show A.units + 1 + n < cLine; omega)) h rx ry
      obtain ⟨a, b, rfl, rfl⟩ := eqT1_refs h
      cases (show v = Value.ref a from rx)
      cases (show u = Value.ref b from ry)
      by_cases e : a = b
      · subst e
        exact (EqAt.same _).eqP
      · exact eqP_refs e step
end
/-- a != b of two tuples or two lists that are equal -/
def rNeN (K : PySem.W.Frag) : R2 := fun x y H Q => ∃ n a b xs ys, n ≤ 60 ∧ x = .ref a ∧ y = .ref b ∧ ((SqT K H a xs ∧ SqT K H b ys) ∨ (SqL K H a xs ∧ SqL K H b ys)) ∧ Paired (EqT K H n) xs ys ∧ Q (.bl false) H
theorem kNeN {X : Cx} (K : PySem.W.Frag) (hK : X.K = K) (hu : X.A.units + 64 < cLine) : OpR X (compareOp .NotEq) (rNeN K) := by
  subst hK
  intro pins s σ H x y v u Q I rx ry h
  obtain ⟨n, a, b, xs, ys, hn, rfl, rfl, hs, hp, q⟩ := h
  cases (show v = Value.ref a from rx)
  cases (show u = Value.ref b from ry)
  have ih := eqT_run I n X.A.in1 (by show X.A.units + 1 + n < cLine; omega)
  rcases hs with ⟨ha, hb⟩ | ⟨ha, hb⟩
  · obtain ⟨us, r1, p1, _⟩ := I.tuple ha
    obtain ⟨ws, r2, p2, _⟩ := I.tuple hb
    have hsz : us.toArray.size = ws.toArray.size := by
      rw [List.size_toArray, List.size_toArray, ← r1.length, ← r2.length]
      exact Paired.length hp
    exact rcP_tne p1 p2 hsz (by omega) (fun j h1 h2 => by simpa using items_run ih hp r1 r2 j (by simpa using h1) (by simpa using h2)) ⟨.bl false, H, I, rfl, q⟩
  · obtain ⟨us, r1, p1, _⟩ := I.list ha
    obtain ⟨ws, r2, p2, _⟩ := I.list hb
    have hsz : us.toArray.size = ws.toArray.size := by
      rw [List.size_toArray, List.size_toArray, ← r1.length, ← r2.length]
      exact Paired.length hp
    exact rcP_lne p1.isList p2.isList hsz (by omega) (fun j h1 h2 => by simpa using items_run ih hp r1 r2 j (by simpa using h1) (by simpa using h2)) ⟨.bl false, H, I, rfl, q⟩
section
variable {K : PySem.W.Frag} {H : Hp} {Q : VK} {p q : Addr} {xs ys : List V}
theorem rd_neNT (n : Nat) (hn : n ≤ 60) (hp : SqT K H p xs) (hq : SqT K H q ys) (e : Paired (EqT K H n) xs ys) (h : Q (.bl false) H) : rNeN K (.ref p) (.ref q) H Q := ⟨n, p, q, xs, ys, hn, rfl, rfl, .inl ⟨hp, hq⟩, e, h⟩
theorem EqT.flat {n : Nat} {x : V} (h : flatB x = true) : EqT K H (n + 1) x x := .inl ⟨rfl, h⟩
theorem EqT.self {n : Nat} {a : Addr} : EqT K H (n + 1) (.ref a) (.ref a) := .inr (.inl ⟨a, rfl, rfl⟩)
theorem EqT.tup {n : Nat} {a b : Addr} {xs ys : List V} (ha : SqT K H a xs) (hb : SqT K H b ys) (h : Paired (EqT K H n) xs ys) : EqT K H (n + 1) (.ref a) (.ref b) := .inr (.inr (.inl ⟨a, b, xs, ys, rfl, rfl, ha, hb, h⟩))
theorem EqT.lst {n : Nat} {a b : Addr} {xs ys : List V} (ha : SqL K H a xs) (hb : SqL K H b ys) (h : Paired (EqT K H n) xs ys) : EqT K H (n + 1) (.ref a) (.ref b) := .inr (.inr (.inr (.inl ⟨a, b, xs, ys, rfl, rfl, ha, hb, h⟩)))
end
end U

/-! k87's law -/
namespace Law
open PySem PySem.Spec PyProof.Rows L2 U LamX


local macro_rules | `(tactic| wtm_at "rd1") => `(tactic| first | with_reducible refine rd_fld ?_ | with_reducible refine rd_mG ?_ | with_reducible refine rd_sFld ?_ | with_reducible refine rd_sAug ?_ | with_reducible refine rd_gFld ?_)
def qLam : Str := ("smallest_path" : Str) ++ ".<locals>." ++ "<lambda>"
def spLaw (K : PySem.W.Frag) (T : Addr) : Sp := fun vs H Q _ => ∃ (a : Addr) (nums : List Int), vs = [.ref a] ∧ SqL K H a (nums.map V.int) ∧ nums.length ≤ 63 ∧ Tabs [(T, qLam)] H ∧ ∀ H' : Hp, Q (.bl true) H'
def gVt (vs zs : List V) : List V := vs ++ zs
theorem rd_mkG {C : Addr} {n m : Nat} {sp : Sp} {gV : List V → List V → List V} {E : XK} {t tk : TA} {σ : L2.St} {H : Hp} {Q : VK} (h : t σ H fun vs H1 => tk σ H1 fun zs H2 => vs.length = n ∧ zs.length = m ∧ ∀ x dx, H2 x = none → H2 dx = none → dx ≠ x →
  sp (gV (.ref x :: vs) zs) (upd (upd H2 dx (.own x)) x (.ins C dx [])) (fun v H3 => v = .non ∧ Q (.ref x) H3) E) : tMkG C n m sp gV E t tk σ H Q := h
theorem ne_of_none2' {H : Hp} {a b : Addr} {o : HO} (h : H b = some o) (n : H a = none) : a ≠ b := fun z => by
  rw [z, h] at n
  cases n
theorem NewN.same {H H' : Hp} {b : Addr} (f : NewN H' b) (s : Same H H') : NewN H b := fun c o hc hn => f c o (s c o hc) hn
theorem NewN.of {H : Hp} {b : Addr} (f : H b = none) : NewN H b := fun c o hc _ e => by
  rw [e, f] at hc
  cases hc
/-- neither a node nor a worker nor a name -/
def WrX (K : PySem.W.Frag) (H : Hp) (kws ns : List Str) (x : V) : Prop := ∃ S, Rp K H x S ∧ NotN K H ns x ∧ NotW K H kws x ∧ NotNm K H x
theorem WrX.same {K : PySem.W.Frag} {H H' : Hp} {kws ns : List Str} {x : V} (h : WrX K H kws ns x) (s : Same H H') : WrX K H' kws ns x := by
  obtain ⟨S, a, b, c, d⟩ := h
  exact ⟨S, a.same s, b.same s, c.same s, d.same s⟩
theorem wr_all {K : PySem.W.Frag} {H : Hp} {ns : List Str} {z : Str} {t1 l1 d1 l2 t2 : Addr} (nm : ∀ x ∈ ns, IsName x) (hz : timesS (Str.ofString "z") 9 = z) (ht1 : H t1 = some (.tup [.str (Str.ofString "all")])) (hl1 : H l1 = some (.lst [])) (hd1 : H d1 = some (.dK [])) (hl2 : H l2 = some (.lst [])) (ht2 : H t2 = some (.tup [.str (Str.ofString "all"), .ref l2])) :
    ∀ v ∈ [V.str (Str.ofString ""), .non, .int 3, .str z, .ref t1, .ref l1, .ref d1, .ref t2], WrX K H [(Str.ofString "all")] ns v := by
  have one : ∀ {d : PyData}, PyData.eqv (.str (Str.ofString "all")) d = false → ∀ w ∈ [(Str.ofString "all")], PyData.eqv (.str w) d = false := fun h w hw => by
    rw [List.mem_singleton.mp hw]
    exact h
  intro v hv
  simp only [List.mem_cons, List.not_mem_nil, or_false] at hv
  rcases hv with rfl | rfl | rfl | rfl | rfl | rfl | rfl | rfl
  · exact ⟨_, rp_nil, .inr ⟨_, rfl, fun h => absurd (nm _ h).lo (by decide)⟩, .inl ⟨.str (Str.ofString ""), .str _, by decide +kernel, one (by decide +kernel)⟩, .inr ⟨_, rfl, .inl (by decide)⟩⟩
  · exact ⟨_, .non, .inl ⟨.non, .base .non, rfl⟩, .inl ⟨.none, .non, by decide +kernel, one (by decide +kernel)⟩, .inl ⟨.non, .base .non, rfl⟩⟩
  · exact ⟨_, .int 3 (by decide), .inl ⟨.int, ty_int, rfl⟩, .inl ⟨.int 3, .int 3, by decide +kernel, one (by decide +kernel)⟩, .inl ⟨.int, ty_int, rfl⟩⟩
  · subst hz
    exact ⟨_, rp_str (by decide +kernel) (by decide +kernel), .inr ⟨_, rfl, fun h => absurd (nm _ h).hi (by decide +kernel)⟩, .inl ⟨.str _, .str _, by decide +kernel, one (by decide +kernel)⟩, .inr ⟨_, rfl, .inr ⟨by decide +kernel, by decide +kernel⟩⟩⟩
  · have dp : Dp K H (.ref t1) (.tuple [.str (Str.ofString "all")]) := .tup (SqT.of ht1) (.cons (.str _) .nil)
    exact ⟨_, .of dp rfl ⟨by decide +kernel, by decide +kernel, by decide +kernel, by decide +kernel⟩, .inl ⟨.tup, ty_tup ht1, rfl⟩, .inl ⟨_, dp, by decide +kernel, one (by decide +kernel)⟩, .inl ⟨.tup, ty_tup ht1, rfl⟩⟩
  · have dp : Dp K H (.ref l1) (.list []) := .lst (SqL.of hl1) .nil
    exact ⟨_, .of dp rfl ⟨by decide +kernel, by decide +kernel, by decide +kernel, by decide +kernel⟩, .inl ⟨.lst, ty_lst hl1, rfl⟩, .inl ⟨_, dp, by decide +kernel, one (by decide +kernel)⟩, .inl ⟨.lst, ty_lst hl1, rfl⟩⟩
  · exact ⟨_, .dct (ns := []) (f := fun _ => 0) hd1 ⟨by decide +kernel, by decide +kernel, by decide +kernel, by decide +kernel⟩, .inl ⟨.dct, ty_dK hd1, rfl⟩, .inr ⟨_, rfl, hd1⟩, .inl ⟨.dct, ty_dK hd1, rfl⟩⟩
  · have dp : Dp K H (.ref t2) (.tuple [.str (Str.ofString "all"), .list []]) := .tup (SqT.of ht2) (.cons (.str _) (.cons (.lst (SqL.of hl2) .nil) .nil))
    exact ⟨_, .of dp rfl ⟨by decide +kernel, by decide +kernel, by decide +kernel, by decide +kernel⟩, .inl ⟨.tup, ty_tup ht2, rfl⟩, .inl ⟨_, dp, by decide +kernel, one (by decide +kernel)⟩, .inl ⟨.tup, ty_tup ht2, rfl⟩⟩
/-- what stands at a round's begin -/
structure M87 (C : Addr) (H0 H : Hp) (p : Addr) (m0 m : Tm) (cl rl : Addr) (ns ord pn : List Str) (es : List (Str × Str)) (k : Nat) : Prop where
  keep : ∀ b o, b ≠ p → b ∉ [rl, cl, m0.en, m0.ow, m0.kw, m0.t] → H0 b = some o → H b = some o
  px : PoolX H p [rl, cl, m0.en, m0.ow, m0.kw, m0.t]
  tm : TmAt C H m
  et : m.t = m0.t
  eg : m.g = m0.g
  ekw : m.kw = m0.kw
  eow : m.ow = m0.ow
  een : m.en = m0.en
  eps : m.ps = m0.ps
  kws : m.kws = [("all" : Str)]
  eord : m.ord = ord
  elo : m.lo = ns
  hcl : H cl = some (.dK (kvF ord m.f))
  hrl : H rl = some (.dK (kvF ns m.h))
  n3 : cl ≠ m.cu ∧ cl ≠ m.re
  n4 : rl ≠ m.cu ∧ rl ≠ m.re
  ow : ∀ x ∈ ns, x ∈ m.oks ∧ m.own x = "all"
  ok : EsOk ns es m.f
  fe : Feas ns es m.f m.h pn
  ens : ∃ as : List Addr, m.ens = as.map V.ref ∧ as.length ≤ k
section
variable {C p cl rl : Addr} {H0 H H' : Hp} {m0 m : Tm} {ns ord pn : List Str} {es : List (Str × Str)} {k : Nat}
theorem M87.go (x : M87 C H0 H p m0 m cl rl ns ord pn es k) (g : Go p H H') : M87 C H0 H' p m0 m cl rl ns ord pn es k :=
  ⟨fun b o n1 n2 h => g.but b o n1 (x.keep b o n1 n2 h), x.px.go g, x.tm.go x.px (by rw [x.ekw]; simp) (by rw [x.een]; simp) g, x.et, x.eg, x.ekw, x.eow, x.een, x.eps, x.kws, x.eord, x.elo, g.dK x.px.pool x.hcl, g.dK x.px.pool x.hrl, x.n3, x.n4, x.ow, x.ok, x.fe, x.ens⟩
theorem M87.same (x : M87 C H0 H p m0 m cl rl ns ord pn es k) (s : Same H H') : M87 C H0 H' p m0 m cl rl ns ord pn es k :=
  ⟨fun b o n1 n2 h => s b o (x.keep b o n1 n2 h), x.px.same s, x.tm.same s, x.et, x.eg, x.ekw, x.eow, x.een, x.eps, x.kws, x.eord, x.elo, s _ _ x.hcl, s _ _ x.hrl, x.n3, x.n4, x.ow, x.ok, x.fe, x.ens⟩
theorem M87.tu (x : M87 C H0 H p m0 m cl rl ns ord pn es k) (off : ∀ b xs, H0 b = some (.tup xs) → b ≠ p ∧ b ∉ [rl, cl, m0.en, m0.ow, m0.kw, m0.t]) {b : Addr} {xs : List V} (h : H0 b = some (.tup xs)) : H b = some (.tup xs) := x.keep _ _ (off _ _ h).1 (off _ _ h).2 h
theorem M87.gs (x : M87 C H0 H p m0 m cl rl ns ord pn es k) (off : ∀ b xs, H0 b = some (.tup xs) → b ≠ p ∧ b ∉ [rl, cl, m0.en, m0.ow, m0.kw, m0.t]) {g n e st c : Addr} {e2 : List (Addr × Str × Str)} {f : Str → Int} (gs : GSt H0 g n e st ns ord e2 f) (ee : es = e2.map (·.2)) (hc : H c = some (.dK (kvF ord m.f))) : GSt H g n e c ns ord e2 m.f := by
  subst ee
  exact ⟨⟨x.tu off gs.gr.top, x.tu off gs.gr.nodes, x.tu off gs.gr.edges, fun y hy => x.tu off (gs.gr.pairs y hy)⟩, gs.ok, gs.pm, gs.l2, gs.l3, hc, x.ok.tri, fun y hy => x.ok.pro _ (List.mem_map_of_mem hy)⟩
end
section
variable {P : Program} {w : World} {K : PySem.W.Frag} {mg : Str → Option Value} {base : Heap}
structure N87c (P : Program) (w : World) (K : PySem.W.Frag) (mg : Str → Option Value) (base : Heap) (T : List (Addr × Str)) (C : Addr) : Prop where
  _law_box : Cal P w K mg base CX0 1 "_law_box" (spBox K)
  _law_draw : Cal P w K mg base CX0 1 "_law_draw" spDraw
  _law_random_problem : Cal P w K mg base CX0 4 "_law_random_problem" spProblem
  _law_random_lift : Cal P w K mg base CX0 3 "_law_random_lift" (spRandLift K)
  _law_call : Cal P w K mg base CX0 6 "_law_call" (spCallW K C)
  _law_same_twice : Cal P w K mg base CX0 6 "_law_same_twice" (spTwice K C)
  _law_expected_waits : Cal P w K mg base CX0 2 "_law_expected_waits" (spWaitL K)
  _law_unused_name : Cal P w K mg base CX0 1 "_law_unused_name" spUnusedE
  team : CalC P w K mg base CX0 8 "Team" C 3 ["pinned"] gVt (spTmInit K T C)
  as_ : CalM P w K mg base CX0 3 C "assign" (spTmAs C)
  mv : CalM P w K mg base CX0 7 C "move" (spTmMv K C)
theorem ok_law {f : Addr} {fd : FuncData} {T0 Cl : Addr} (F : Fun K "law" "law" s_law f fd) (B : Bt mg) (T : TmC K Cl) (D : N87c P w K mg base [(T0, qLam)] Cl) : FnG P w K mg base CX0 10 f fd ["_law_script"] (spLaw K T0) := by
  have C := D
  refine fnG0 F sc_law (fun vs H Q E h => ?_) (fun cdv A outer s H vs Q E hr h => ?_)
  · obtain ⟨a, nums, rfl, _⟩ := h
    rfl
  · obtain ⟨a, nums, rfl, hs, hl, tabs, q⟩ := h
    have nd := sc_law.nd
    have hu := hr.u1
    refine ⟨_, (pss_cons (ps_set (i := 1) nd rfl (by first | exact Or.inl rfl | exact Or.inr rfl) (pe_c C._law_box hr (by decide) rfl (pa_cons (pv 0) pa_nil)))
  (pss_cons (ps_asg (pe_c C._law_random_problem hr (by decide) rfl (pa_cons (pv 1) (pa_cons pe_int pa_nil))) (kg_tup (n := 3) K rfl rfl (pgs_cons (pg_name (i := 2) nd rfl (by first | exact Or.inl rfl | exact Or.inr rfl)) (pgs_cons (pg_name (i := 3) nd rfl (by first | exact Or.inl rfl | exact Or.inr rfl)) (pgs_cons (pg_name (i := 4) nd rfl (by first | exact Or.inl rfl | exact Or.inr rfl)) pgs_nil)))))
  (pss_cons (ps_set (i := 5) nd rfl (by first | exact Or.inl rfl | exact Or.inr rfl) (pe_c C._law_random_lift hr (by decide) rfl (pa_cons (pv 1) (pa_cons (pv 2) (pa_cons (pv 3) (pa_cons (pv 4) (pa_cons pe_int pa_nil)))))))
  (pss_cons (ps_set (i := 6) nd rfl (by first | exact Or.inl rfl | exact Or.inr rfl) (pe_mkG C.team hr (by decide) rfl pass0 (pa_cons (pv 2) (pa_cons (pv 3) (pa_cons (pv 5) pa_nil))) (pk_cons (pv 4) pk_nil)))
  (pss_cons (ps_expr (pe_mG C.as_ T.cl hr (by decide) pass0 (pv 6) (pa_cons pe_str (pa_cons (pe_callTy (kList K rfl rfl) (by rfl) B.list bb_list (pa_cons (pe_ix (kIx K rfl) (pv 2) pe_int (fun _ _ => rfl)) pa_nil)) pa_nil))))
  (pss_cons (ps_for PassesOwn.never rfl (ki_list K rfl (pe_lst (pa_cons pe_str (pa_cons pe_non (pa_cons pe_int (pa_cons (pe_op uMul pe_str pe_int) (pa_cons (pe_tup (pa_cons pe_str pa_nil)) (pa_cons (pe_lst pa_nil) (pa_cons pe_dnewK (pa_cons (pe_tup (pa_cons pe_str (pa_cons (pe_lst pa_nil) pa_nil))) pa_nil)))))))))) (pg_name (i := 7) nd rfl (by first | exact Or.inl rfl | exact Or.inr rfl)) (pss_cons (ps_if (pt_cmpR (kNeN K rfl hr.u64) (pe_c C._law_call hr (by decide) rfl (pa_cons (pv 6) (pa_cons (pv 7) (pa_cons pe_int pa_nil)))) (pe_tup (pa_cons pe_str (pa_cons (pe_callB (kReprV K rfl hr.g hr.u64) (by rfl) B.repr bb_repr (pa_cons (pv 7) pa_nil)) pa_nil))) (nomark _)) (pss_one (ps_ret pe_bl)) pss_nil)
  (pss_one (ps_for PassesOwn.never rfl (ki_list K rfl (pe_lst (pa_cons pe_int (pa_cons pe_int pa_nil)))) (pg_name (i := 8) nd rfl (by first | exact Or.inl rfl | exact Or.inr rfl)) (pss_one (ps_if (pt_cmpR (kNeN K rfl hr.u64) (pe_c C._law_call hr (by decide) rfl (pa_cons (pv 6) (pa_cons (pv 7) (pa_cons (pv 8) pa_nil)))) (pe_tup (pa_cons pe_str (pa_cons (pe_callB (kReprV K rfl hr.g hr.u64) (by rfl) B.repr bb_repr (pa_cons (pv 7) pa_nil)) pa_nil))) (nomark _)) (pss_one (ps_ret pe_bl)) pss_nil))))))
  (pss_cons (ps_if (PW.pt (pw_or (pt_cmpR (kNeN K rfl hr.u64) (pe_c C._law_call hr (by decide) rfl (pa_cons (pv 6) (pa_cons pe_str (pa_cons pe_int pa_nil)))) (pe_tup (pa_cons pe_str (pa_cons pe_str pa_nil))) (nomark _)) (pw_or1 (pt_cmpR (kNeN K rfl hr.u64) (pe_c C._law_call hr (by decide) rfl (pa_cons (pv 6) (pa_cons pe_str (pa_cons pe_int pa_nil)))) (pe_tup (pa_cons pe_str (pa_cons pe_str pa_nil))) (nomark _))))) (pss_one (ps_ret pe_bl)) pss_nil)
  (pss_cons (ps_if (pt_cmpR (kNeN K rfl hr.u64) (pe_c C._law_call hr (by decide) rfl (pa_cons (pv 6) (pa_cons (pe_c C._law_unused_name hr (by decide) rfl (pa_cons (pv 2) pa_nil)) (pa_cons pe_int pa_nil)))) (pe_tup (pa_cons pe_str (pa_cons (pe_callB (kReprV K rfl hr.g hr.u64) (by rfl) B.repr bb_repr (pa_cons (pe_c C._law_unused_name hr (by decide) rfl (pa_cons (pv 2) pa_nil)) pa_nil)) pa_nil))) (nomark _)) (pss_one (ps_ret pe_bl)) pss_nil)
  (pss_cons (ps_set (i := 9) nd rfl (by first | exact Or.inl rfl | exact Or.inr rfl) (pe_callTy cDict (by rfl) B.dict bb_dict (pa_cons (pv 3) pa_nil)))
  (pss_cons (ps_set (i := 10) nd rfl (by first | exact Or.inl rfl | exact Or.inr rfl) (pe_callTy cDict (by rfl) B.dict bb_dict (pa_cons (pv 5) pa_nil)))
  (pss_cons (ps_for PassesOwn.never rfl (pi_range1 rfl B.range (pa_cons (pe_op (kAdd K rfl) pe_int (pe_c C._law_draw hr (by decide) rfl (pa_cons (pv 1) (pa_cons pe_int pa_nil)))) pa_nil)) (pg_name (i := 11) nd rfl (by first | exact Or.inl rfl | exact Or.inr rfl)) (pss_cons (ps_set (i := 12) nd rfl (by first | exact Or.inl rfl | exact Or.inr rfl) (pe_lst pa_nil))
  (pss_cons (ps_for PassesOwn.never rfl (ki_tup K rfl (pe_ix (kIx K rfl) (pv 2) pe_int (fun _ _ => rfl))) (pg_name (i := 13) nd rfl (by first | exact Or.inl rfl | exact Or.inr rfl)) (pss_cons (ps_set (i := 14) nd rfl (by first | exact Or.inl rfl | exact Or.inr rfl) (pe_c C._law_expected_waits hr (by decide) rfl (pa_cons (pv 2) (pa_cons (pv 9) (pa_cons (pv 10) (pa_cons (pv 13) pa_nil))))))
  (pss_cons (ps_if (pt_not (pt_val (pe_c C._law_same_twice hr (by decide) rfl (pa_cons (pv 6) (pa_cons (pv 13) (pa_cons pe_int (pa_cons (pv 14) pa_nil))))))) (pss_one (ps_ret pe_bl)) pss_nil)
  (pss_one (ps_if (PW.pt (pw_and (pt_cmpR (kNe K rfl hr.u64) (pe_dget hu (pv 10) (pv 13) (fun _ _ => rfl)) pe_int (nomark _)) (pw_and1 (pt_cmpR (kEq K rfl hr.u64) (pv 14) (pe_lst pa_nil) (nomark _))))) (pss_one (ps_expr (pe_bm PySem.F.plainAttrs_list PySem.F.slot_list_append PySem.F.type_list_append mt_append (pv 12) (pa_cons (pe_tup (pa_cons (pv 13) (pa_cons (pe_ifExp (pt_cmpR uGt (pe_dget hu (pv 10) (pv 13) (fun _ _ => rfl)) pe_int (nomark _)) (pe_op uMod (pe_op (kAdd K rfl) (pe_dget hu (pv 9) (pv 13) (fun _ _ => rfl)) pe_int) pe_int) (pe_op uMod (pe_op (kAdd K rfl) (pe_dget hu (pv 9) (pv 13) (fun _ _ => rfl)) pe_int) pe_int)) pa_nil))) pa_nil)))) pss_nil)))))
  (pss_cons (ps_if (pt_not (pt_val (pe_c C._law_same_twice hr (by decide) rfl (pa_cons (pv 6) (pa_cons pe_str (pa_cons pe_int (pa_cons (pv 12) pa_nil))))))) (pss_one (ps_ret pe_bl)) pss_nil)
  (pss_one (ps_if (pt_cmpR (kNe K rfl hr.u64) (pv 12) (pe_lst pa_nil) (nomark _)) (pss_cons (ps_asg (pe_ix (kIx K rfl) (pv 12) (pe_c C._law_draw hr (by decide) rfl (pa_cons (pv 1) (pa_cons (pe_callB (kLen K rfl) (by rfl) B.len bb_len (pa_cons (pv 12) pa_nil)) pa_nil))) (fun _ _ => rfl)) (kg_tup (n := 2) K rfl rfl (pgs_cons (pg_name (i := 13) nd rfl (by first | exact Or.inl rfl | exact Or.inr rfl)) (pgs_cons (pg_name (i := 15) nd rfl (by first | exact Or.inl rfl | exact Or.inr rfl)) pgs_nil))))
  (pss_cons (ps_if (pt_cmpR (kNe K rfl hr.u64) (pe_mG C.mv T.cl hr (by decide) pass0 (pv 6) (pa_cons pe_str (pa_cons (pv 13) pa_nil))) (pv 15) (nomark _)) (pss_one (ps_ret pe_bl)) pss_nil)
  (pss_cons (ps_dput hu (pv 9) (pv 13) (pv 15) rfl)
  (pss_one (ps_dput hu (pv 10) (pv 13) (pe_ifExp (pt_cmpR uGt (pe_dget hu (pv 10) (pv 13) (fun _ _ => rfl)) pe_int (nomark _)) (pe_op uSub (pe_dget hu (pv 10) (pv 13) (fun _ _ => rfl)) pe_int) (pe_op (kAdd K rfl) (pe_dget hu (pv 10) (pv 13) (fun _ _ => rfl)) pe_int)) rfl))))) pss_nil))))))
  (pss_one (ps_ret pe_bl))))))))))))), ?_⟩
    generalize [(T0, qLam)] = TT at *
    wtm_at "rd"
    refine ⟨a, nums, rfl, hs, hl, fun p H1 s1 fp hp => ?_⟩
    have tb1 := tabs.ext fun b o h => s1 b o h
    wtm_at "rd"
    refine use_problem hp (by decide) (by decide) fun t0 g n e st ps ns ord pn es f0 H2 g2 _ _ _ _ ht0 gs hps pin pl asc n9 => ?_
    refine rd_unp (SqT.of ht0) rfl ?_
    have x2 := GoN.of_go tb1 hp g2
    wtm_at "rd"
    refine ⟨p, g, n, e, st, ps, 3, ns, ord, pn, es, f0, rfl, g2.pool, gs, hps, by decide, by decide, fun lf h0 ms0 f1 H3 g3 _ hlf pl0 eh bd => ?_⟩
    have gs := gs.go g2.pool g3
    have hps := g3.tup g2.pool hps
    have tb3 := (x2.go g3).tabs
    have fe : Feas ns (es.map (·.2)) f0 h0 pn := by rw [eh]; exact feas_count gs.eok pl0
    have px3 := PoolX.nil g3.pool
    clear g2 x2 ht0 pl0 eh tabs tb1 s1 g3
    have l2 := gs.l2
    have eok := gs.eok
    wtm_at "rd"
    refine rd_mkG ?_
    wtm_at "rd"
    intro t dx ft fdx ndx
    have s34 : Same H3 (upd (upd H3 dx (.own t)) t (.ins Cl dx [])) := same_add (o := .ins Cl dx []) (Same.new (o := .own t) fdx) (by rw [upd_ne (Ne.symm ndx)]; exact ft)
    have ht4 := @upd_same (upd H3 dx (.own t)) t (.ins Cl dx [])
    generalize upd (upd H3 dx (.own t)) t (.ins Cl dx []) = H4 at *
    refine ⟨t, dx, g, n, e, st, lf, ps, ns, ord, pn, es, f0, h0, rfl, ht4, gs.same s34, s34 _ _ hlf, SqT.of (s34 _ _ hps), tb3.ext (fun b o h => s34 b o h), fe, fun m0 H5 k5 _ a5 et eg eps ekw eok0 een er eord elo ef eh2 c1 c2 c3 c4 c5 => ⟨rfl, ?_⟩⟩
    subst et
    have x35 : ExtN H3 H5 := fun b o hb hn => k5 b o (fun z => by rw [z, ft] at hb; cases hb) (s34 b o hb) hn
    have px5 : PoolX H5 p [m0.en, m0.ow, m0.kw, m0.t] := ((((px3.addN (NewN.of ft)).addN (c3.same s34)).addN (c4.same s34)).addN (c5.same s34)).ext x35
    have off4 : ∀ b o, H3 b = some o → (∀ ps, o ≠ .tbl ps) → b ≠ m0.t ∧ b ≠ m0.kw ∧ b ≠ m0.ow ∧ b ≠ m0.en ∧ b ≠ m0.cu ∧ b ≠ m0.re := fun b o hb hn => ⟨NewN.of ft b o hb hn, c3 b o (s34 b o hb) hn, c4 b o (s34 b o hb) hn, c5 b o (s34 b o hb) hn, c1 b o (s34 b o hb) hn, c2 b o (s34 b o hb) hn⟩
    have ost := off4 _ _ gs.st nofun
    have olf := off4 _ _ hlf nofun
    have gs := gs.ext x35
    have hlf := ExtN.dk x35 hlf
    have hps := ExtN.tu x35 hps
    clear px3 x35 k5 tb3 c1 c2 c3 c4 c5 ht4 s34 ft fdx ndx off4
    wtm_at "rd"
    refine m0.call_assign a5.ins ?_
    wtm_at "rd"
    refine rd_ixT (SqT.of gs.gr.top) (v := .ref n) rfl ?_
    wtm_at "rd"
    refine rd_listT (SqT.of gs.gr.nodes) ?_
    intro nl fnl
    have knl := Same.new (o := .lst (ns.map V.str)) fnl
    have hnl := @upd_same H5 nl (.lst (ns.map V.str))
    have nlk : nl ≠ m0.kw := ne_of_none2' a5.kw fnl
    have hlf := knl _ _ hlf
    have hps := knl _ _ hps
    have gs := gs.same knl
    have a5 := a5.same knl
    have px5 := px5.same knl
    generalize upd H5 nl (.lst (ns.map V.str)) = H6 at *
    clear knl fnl
    wtm_at "rd"
    have nmA : IsName "all" := ⟨by decide, by decide, by decide⟩
    refine ⟨m0, "all", nl, n, e, ns, ns, es, rfl, a5, nmA, eg ▸ gs.gr, by omega, hnl, nlk, (fun x hx => hx), by rw [ekw]; exact Nat.zero_le _, by rw [eok0]; exact List.Pairwise.nil, (fun x hx => by rw [eok0] at hx; cases hx), fun oks' H7 k7 a7 okn okm => ?_⟩
    have ek : (if ("all" : Str) ∈ m0.kws then m0.kws else m0.kws ++ [("all" : Str)]) = [("all" : Str)] := by
      rw [ekw]
      rfl
    rw [ek] at a7
    obtain ⟨m, et, eg', ekw', eow', een', eps', eks, elo', eord', ef', eh', een2, ow, a7⟩ : ∃ m : Tm, m.t = m0.t ∧ m.g = g ∧ m.kw = m0.kw ∧ m.ow = m0.ow ∧ m.en = m0.en ∧ m.ps = ps ∧ m.kws = [("all" : Str)] ∧ m.lo = ns ∧ m.ord = ord ∧ m.f = f0 ∧ m.h = h0 ∧ m.ens = [] ∧ (∀ x ∈ ns, x ∈ m.oks ∧ m.own x = "all") ∧ TmAt Cl H7 m := ⟨{ m0 with kws := [("all" : Str)], oks := oks', own := fun y => if y ∈ ns then "all" else m0.own y }, rfl, eg, rfl, rfl, rfl, eps, rfl, elo, eord, ef, eh2, een, (fun x hx => ⟨(okm x).mpr (.inr hx), if_pos hx⟩), a7⟩
    have tu7 : ∀ {b : Addr} {xs : List V}, H6 b = some (.tup xs) → H7 b = some (.tup xs) := fun {b xs} hb => k7 b _ (ne_of hb a5.ins nofun) (ne_of hb a5.kw nofun) (ne_of hb a5.ow nofun) (ne_of hb a5.en nofun) hb
    have gs : GSt H7 g n e st ns ord es f0 := ⟨⟨tu7 gs.gr.top, tu7 gs.gr.nodes, tu7 gs.gr.edges, fun y hy => tu7 (gs.gr.pairs y hy)⟩, gs.ok, gs.pm, gs.l2, gs.l3, k7 _ _ ost.1 ost.2.1 ost.2.2.1 ost.2.2.2.1 gs.st, gs.tri, gs.pro⟩
    have hlf := k7 _ _ olf.1 olf.2.1 olf.2.2.1 olf.2.2.2.1 hlf
    have hps := tu7 hps
    have px7 : PoolX H7 p [m0.en, m0.ow, m0.kw, m0.t] := px5.keep fun b o nb hb _ => by
      simp only [List.mem_cons, List.not_mem_nil, or_false, not_or] at nb
      exact k7 b o nb.2.2.2 nb.2.2.1 nb.2.1 nb.1 hb
    clear k7 tu7 a5 px5 hnl nlk okm okn
    wtm_at "rd"
    refine ⟨⟨by decide, by decide, by decide⟩, ?_⟩
    generalize hz : timesS (Str.ofString "z") 9 = z
    wtm_at "rd"
    intro t1 ft1
    have kt1 := Same.new (o := .tup [.str (Str.ofString "all")]) ft1
    have ht1 := @upd_same H7 t1 (.tup [.str (Str.ofString "all")])
    have hlf := kt1 _ _ hlf
    have hps := kt1 _ _ hps
    have gs := gs.same kt1
    have a7 := a7.same kt1
    have px7 := px7.same kt1
    generalize upd H7 t1 (.tup [.str (Str.ofString "all")]) = HA at ht1 hlf hps gs a7 px7
    clear kt1 ft1
    wtm_at "rd"
    intro l1 fl1
    have kl1 := Same.new (o := .lst []) fl1
    have hl1 := @upd_same HA l1 (.lst [])
    have hlf := kl1 _ _ hlf
    have hps := kl1 _ _ hps
    have ht1 := kl1 _ _ ht1
    have gs := gs.same kl1
    have a7 := a7.same kl1
    have px7 := px7.same kl1
    generalize upd HA l1 (.lst []) = HB at hl1 hlf hps ht1 gs a7 px7
    clear kl1 fl1
    wtm_at "rd"
    intro d1 fd1
    have kd1 := Same.new (o := .dK []) fd1
    have hd1 := @upd_same HB d1 (.dK [])
    have hlf := kd1 _ _ hlf
    have hps := kd1 _ _ hps
    have ht1 := kd1 _ _ ht1
    have hl1 := kd1 _ _ hl1
    have gs := gs.same kd1
    have a7 := a7.same kd1
    have px7 := px7.same kd1
    generalize upd HB d1 (.dK []) = HC at hd1 hlf hps ht1 hl1 gs a7 px7
    clear kd1 fd1
    wtm_at "rd"
    intro l2 fl2
    have kl2 := Same.new (o := .lst []) fl2
    have hl2 := @upd_same HC l2 (.lst [])
    have hlf := kl2 _ _ hlf
    have hps := kl2 _ _ hps
    have ht1 := kl2 _ _ ht1
    have hl1 := kl2 _ _ hl1
    have hd1 := kl2 _ _ hd1
    have gs := gs.same kl2
    have a7 := a7.same kl2
    have px7 := px7.same kl2
    generalize upd HC l2 (.lst []) = HD at hl2 hlf hps ht1 hl1 hd1 gs a7 px7
    clear kl2 fl2
    wtm_at "rd"
    intro t2 ft2
    have kt2 := Same.new (o := .tup [.str (Str.ofString "all"), .ref l2]) ft2
    have ht2 := @upd_same HD t2 (.tup [.str (Str.ofString "all"), .ref l2])
    have hlf := kt2 _ _ hlf
    have hps := kt2 _ _ hps
    have ht1 := kt2 _ _ ht1
    have hl1 := kt2 _ _ hl1
    have hd1 := kt2 _ _ hd1
    have hl2 := kt2 _ _ hl2
    have gs := gs.same kt2
    have a7 := a7.same kt2
    have px7 := px7.same kt2
    generalize upd HD t2 (.tup [.str (Str.ofString "all"), .ref l2]) = HE at ht2 hlf hps ht1 hl1 hd1 hl2 gs a7 px7
    clear kt2 ft2
    wtm_at "rd"
    intro wl fwl
    have kwl := Same.new (o := .lst [.str (Str.ofString ""), .non, .int 3, .str z, .ref t1, .ref l1, .ref d1, .ref t2]) fwl
    have hwl := @upd_same HE wl (.lst [.str (Str.ofString ""), .non, .int 3, .str z, .ref t1, .ref l1, .ref d1, .ref t2])
    have hlf := kwl _ _ hlf
    have hps := kwl _ _ hps
    have ht1 := kwl _ _ ht1
    have hl1 := kwl _ _ hl1
    have hd1 := kwl _ _ hd1
    have hl2 := kwl _ _ hl2
    have ht2 := kwl _ _ ht2
    have gs := gs.same kwl
    have a7 := a7.same kwl
    have px7 := px7.same kwl
    generalize upd HE wl (.lst [.str (Str.ofString ""), .non, .int 3, .str z, .ref t1, .ref l1, .ref d1, .ref t2]) = HF at hwl hlf hps ht1 hl1 hd1 hl2 ht2 gs a7 px7
    clear kwl fwl
    wtm_at "rd"
    have cand := wr_all (K := K) (fun x hx => gs.ok.names.ok x hx) hz ht1 hl1 hd1 hl2 ht2
    clear ht1 hl1 hd1 hl2 ht2 hz
    generalize [V.str (Str.ofString ""), .non, .int 3, .str z, .ref t1, .ref l1, .ref d1, .ref t2] = wv at *
    have okw : ∀ w ∈ m.kws, PyData.strOk w = true := fun w hw => by
      rw [eks] at hw
      rw [List.mem_singleton.mp hw]
      exact nmA.sok
    have gsm : ∀ H', Same HF H' → GSt H' m.g n e m.cu ns m.ord es m.f := fun H' s => by
      rw [eg', eord', ef']
      exact ⟨(gs.same s).gr, gs.ok, gs.pm, gs.l2, gs.l3, by rw [← eord', ← ef']; exact (a7.same s).cu, gs.tri, gs.pro⟩
    refine rd_forL (SqL.of hwl) ?_
    refine turnsL (K := K) (xs := wv) (fun i σ H' => ∃ u7 u8 : Option V, σ = [some (.ref a), some (.ref p), some (.ref g), some (.ref st), some (.ref ps), some (.ref lf), some (.ref m0.t), u7, u8, none, none, none, none, none, none, none] ∧ Same HF H') ⟨_, _, rfl, fun _ _ h => h⟩ ?_ ?_ ?_
    · rintro i σ H' hi ⟨_, _, rfl, s⟩
      exact SqL.of (s _ _ hwl)
    · rintro i v σ H1 hv ⟨u7, u8, rfl, s1⟩
      obtain ⟨S, rp, nn, nw, nmx⟩ := (cand v (List.mem_of_getElem? hv)).same s1
      rw [← eks] at nw
      wtm_at "rd"
      rw [← et]
      refine ⟨m, v, n, e, ns, es, S, 0, rfl, a7.same s1, gsm _ s1, elo', okw, rp, .inl ⟨rfl, nn, fun t3 H2 s2 ft3 ht3 => ?_⟩⟩
      wtm_at "rd"
      refine rd_reprV (rp.same s2) ?_
      wtm_at "rd"
      intro t4 ft4
      have k4 := Same.new (o := .tup [.str (Str.ofString "node"), .str S]) ft4
      refine rd_neNT 1 (by decide) (SqT.of (k4 _ _ ht3)) (SqT.of upd_same) (.cons (.flat rfl) (.cons (.flat rfl) .nil)) ?_
      have s2 := s2.trans k4
      generalize upd H2 t4 (.tup [.str (Str.ofString "node"), .str S]) = H3 at *
      wtm_at "rd"
      try refine rd_F ?_
      wtm_at "rd"
      intro li fli
      have s4 := (s1.trans s2).trans (Same.new (o := .lst [.int 1, .int 2]) fli)
      have hli := @upd_same H3 li (.lst [.int 1, .int 2])
      generalize upd H3 li (.lst [.int 1, .int 2]) = H4 at *
      refine rd_forL (SqL.of hli) ?_
      refine turnsL (K := K) (xs := [V.int 1, V.int 2]) (fun j σ H' => ∃ u8 : Option V, σ = [some (.ref a), some (.ref p), some (.ref g), some (.ref st), some (.ref ps), some (.ref lf), some (.ref m.t), some v, u8, none, none, none, none, none, none, none] ∧ Same H4 H') ⟨_, rfl, fun _ _ h => h⟩ ?_ ?_ ?_
      · rintro j σ H' hj ⟨_, rfl, s⟩
        exact SqL.of (s _ _ hli)
      · rintro j dv σ H5 hd ⟨u8, rfl, s5⟩
        have sA := s4.trans s5
        obtain ⟨S, rp, nn, nw, nmx⟩ := (cand v (List.mem_of_getElem? hv)).same sA
        rw [← eks] at nw
        have hdv := List.mem_of_getElem? hd
        simp only [List.mem_cons, List.not_mem_nil, or_false] at hdv
        rcases hdv with rfl | rfl
        · wtm_at "rd"
          refine ⟨m, v, n, e, ns, es, S, 1, rfl, a7.same sA, gsm _ sA, elo', okw, rp, .inr (.inl ⟨rfl, nw, fun t5 H6 s6 ft5 ht5 => ?_⟩)⟩
          wtm_at "rd"
          refine rd_reprV (rp.same s6) ?_
          wtm_at "rd"
          intro t6 ft6
          have k6 := Same.new (o := .tup [.str (Str.ofString "worker"), .str S]) ft6
          refine rd_neNT 1 (by decide) (SqT.of (k6 _ _ ht5)) (SqT.of upd_same) (.cons (.flat rfl) (.cons (.flat rfl) .nil)) ?_
          wtm_at "rd"
          try refine rd_F ?_
          exact ⟨_, rfl, s5.trans (s6.trans k6)⟩
        · wtm_at "rd"
          refine ⟨m, v, n, e, ns, es, S, 2, rfl, a7.same sA, gsm _ sA, elo', okw, rp, .inr (.inr (.inl ⟨rfl, nmx, fun t5 H6 s6 ft5 ht5 => ?_⟩))⟩
          wtm_at "rd"
          refine rd_reprV (rp.same s6) ?_
          wtm_at "rd"
          intro t6 ft6
          have k6 := Same.new (o := .tup [.str (Str.ofString "worker"), .str S]) ft6
          refine rd_neNT 1 (by decide) (SqT.of (k6 _ _ ht5)) (SqT.of upd_same) (.cons (.flat rfl) (.cons (.flat rfl) .nil)) ?_
          wtm_at "rd"
          try refine rd_F ?_
          exact ⟨_, rfl, s5.trans (s6.trans k6)⟩
      · rintro σ H5 ⟨u8, rfl, s5⟩
        rw [et]
        exact ⟨_, _, rfl, s4.trans s5⟩
    · rintro σ H1 ⟨u7, u8, rfl, s1⟩
      wtm_at "rd"
      rw [← et]
      have nmO : IsName (Str.ofString "other") := ⟨by decide, by decide, by decide +kernel⟩
      have eO : reprText (Str.ofString "other") = Str.ofString "'other'" := by decide +kernel
      have rpO : ∀ H', Rp K H' (.str (Str.ofString "other")) (Str.ofString "'other'") := fun H' => by
        rw [← eO]
        exact rp_str (by decide +kernel) (by decide +kernel)
      have nE : (Str.ofString "") ∉ ns := fun h => absurd (gs.ok.names.ok _ h).lo (by decide)
      refine ⟨m, _, n, e, ns, es, _, 2, rfl, a7.same s1, gsm _ s1, elo', okw, rpO _, .inr (.inr (.inr ⟨rfl, nE, ⟨_, rfl, nmO⟩, fun t5 H2 s2 ft5 ht5 => ?_⟩))⟩
      wtm_at "rd"
      intro t6 ft6
      have k6 := Same.new (o := .tup [.str (Str.ofString "node"), .str (Str.ofString "''")]) ft6
      refine rd_neNT 1 (by decide) (SqT.of (k6 _ _ ht5)) (SqT.of upd_same) (.cons (.flat rfl) (.cons (.flat rfl) .nil)) ?_
      have s3 := (s1.trans s2).trans k6
      generalize upd H2 t6 (.tup [.str (Str.ofString "node"), .str (Str.ofString "''")]) = H3 at *
      wtm_at "rd"
      try refine rd_F ?_
      wtm_at "rd"
      have nwO : NotW K H3 m.kws (.str (Str.ofString "other")) := .inl ⟨_, .str _, by decide +kernel, fun w hw => by
        rw [eks] at hw
        rw [List.mem_singleton.mp hw]
        decide +kernel⟩
      refine ⟨m, _, n, e, ns, es, _, 1, rfl, a7.same s3, gsm _ s3, elo', okw, rpO _, .inr (.inl ⟨rfl, nwO, fun t7 H4 s4 ft7 ht7 => ?_⟩)⟩
      wtm_at "rd"
      intro t8 ft8
      have k8 := Same.new (o := .tup [.str (Str.ofString "worker"), .str (Str.ofString "'other'")]) ft8
      refine rd_neNT 1 (by decide) (SqT.of (k8 _ _ ht7)) (SqT.of upd_same) (.cons (.flat rfl) (.cons (.flat rfl) .nil)) ?_
      have s5 := (s3.trans s4).trans k8
      generalize upd H4 t8 (.tup [.str (Str.ofString "worker"), .str (Str.ofString "'other'")]) = H5 at *
      wtm_at "rd"
      try refine rd_F ?_
      wtm_at "rd"
      refine ⟨g, n, e, ns, rfl, (gs.same s5).gr.top, (gs.same s5).gr.nodes, by omega, fun H6 s6 nu iu => ?_⟩
      wtm_at "rd"
      have s7 := s5.trans s6
      have rpU : ∀ H', Rp K H' (.str (unF ns)) (reprText (unF ns)) := fun H' => rp_str (fun c hc => by
        have := (iu.ch c hc).2
        omega) (by
        have := iu.hi
        omega)
      refine ⟨m, _, n, e, ns, es, _, 0, rfl, a7.same s7, gsm _ s7, elo', okw, rpU _, .inl ⟨rfl, .inr ⟨_, rfl, nu⟩, fun t9 H7 s8 ft9 ht9 => ?_⟩⟩
      wtm_at "rd"
      have s9 := s7.trans s8
      refine ⟨g, n, e, ns, rfl, (gs.same s9).gr.top, (gs.same s9).gr.nodes, by omega, fun H8 s10 _ _ => ?_⟩
      wtm_at "rd"
      refine rd_reprV (rpU _) ?_
      wtm_at "rd"
      intro ta fta
      have ka := Same.new (o := .tup [.str (Str.ofString "node"), .str (reprText (unF ns))]) fta
      refine rd_neNT 1 (by decide) (SqT.of (ka _ _ (s10 _ _ ht9))) (SqT.of upd_same) (.cons (.flat rfl) (.cons (.flat rfl) .nil)) ?_
      have sB := (s9.trans s10).trans ka
      generalize upd H8 ta (.tup [.str (Str.ofString "node"), .str (reprText (unF ns))]) = H9 at *
      wtm_at "rd"
      try refine rd_F ?_
      wtm_at "rd"
      have gs := gs.same sB
      have aB := a7.same sB
      have pxB := px7.same sB
      have hlf := sB _ _ hlf
      have hps := sB _ _ hps
      clear cand gsm okw
      refine ⟨_, .inl gs.st, fun cl fcl => ?_⟩
      have kcl := Same.new (o := .dK (kvF ord f0)) fcl
      have hcl := @upd_same H9 cl (.dK (kvF ord f0))
      have ncl : cl ≠ m.cu ∧ cl ≠ m.re ∧ cl ≠ m.ow := ⟨ne_of_none2' aB.cu fcl, ne_of_none2' aB.re fcl, ne_of_none2' aB.ow fcl⟩
      have pxC := pxB.add fcl
      have hlf := kcl _ _ hlf
      have hps := kcl _ _ hps
      have gs := gs.same kcl
      have aB := aB.same kcl
      have pxC := pxC.same kcl
      generalize upd H9 cl (.dK (kvF ord f0)) = HC at *
      clear kcl fcl pxB
      wtm_at "rd"
      refine ⟨_, .inl hlf, fun rl frl => ?_⟩
      have krl := Same.new (o := .dK (kvF ns h0)) frl
      have hrl := @upd_same HC rl (.dK (kvF ns h0))
      have nrl : rl ≠ m.cu ∧ rl ≠ m.re ∧ rl ≠ m.ow ∧ rl ≠ cl := ⟨ne_of_none2' aB.cu frl, ne_of_none2' aB.re frl, ne_of_none2' aB.ow frl, ne_of_none2' hcl frl⟩
      have pxD := pxC.add frl
      have hlf := krl _ _ hlf
      have hps := krl _ _ hps
      have hcl := krl _ _ hcl
      have gs := gs.same krl
      have aB := aB.same krl
      have pxD := pxD.same krl
      generalize upd HC rl (.dK (kvF ns h0)) = HD at *
      clear krl frl pxC
      have x0 : M87 Cl HD HD p m0 m cl rl ns ord pn (es.map (·.2)) 0 := ⟨fun _ _ _ _ h => h, pxD, aB, et, eg'.trans eg.symm, ekw', eow', een', eps'.trans eps.symm, eks, eord', elo', by rw [hcl, ef'], by rw [hrl, eh'], ⟨ncl.1, ncl.2.1⟩, ⟨nrl.1, nrl.2.1⟩, ow, by rw [ef']; exact gs.eok, by rw [ef', eh']; exact fe, ⟨[], een2, Nat.le_refl _⟩⟩
      have offT : ∀ b xs, HD b = some (.tup xs) → b ≠ p ∧ b ∉ [rl, cl, m0.en, m0.ow, m0.kw, m0.t] := fun b xs hb => ⟨pxD.pool.offT hb, by
        simp only [List.mem_cons, List.not_mem_nil, or_false, not_or]
        exact ⟨ne_of hb hrl nofun, ne_of hb hcl nofun, een' ▸ ne_of hb aB.en nofun, eow' ▸ ne_of hb aB.ow nofun, ekw' ▸ ne_of hb aB.kw nofun, et ▸ ne_of hb aB.ins nofun⟩⟩
      wtm_at "rd"
      refine use_draw pxD.pool (by decide) (by decide) fun r HE r0 r1 gE => ?_
      have x0 := x0.go gE
      have ncr0 : cl ≠ rl := Ne.symm nrl.2.2.2
      have ncow : cl ≠ m0.ow ∧ rl ≠ m0.ow := by rw [← eow']; exact ⟨ncl.2.2, nrl.2.2.1⟩
      clear gE
      wtm_at "rd"
      refine turnsR (fun i σ H' => (∃ u7 u8 u11 u12 u13 u14 u15 : Option V, σ = [some (.ref a), some (.ref p), some (.ref g), some (.ref st), some (.ref ps), some (.ref lf), some (.ref m0.t), u7, u8, some (.ref cl), some (.ref rl), u11, u12, u13, u14, u15]) ∧ ∃ m, M87 Cl HD H' p m0 m cl rl ns ord pn (es.map (·.2)) i) ⟨⟨_, _, _, _, _, _, _, by rw [← et]; rfl⟩, m, x0⟩ ?_ ?_
      · clear x0
        rintro i σ H1 hi ⟨⟨u7, u8, u11, u12, u13, u14, u15, rfl⟩, m, x⟩
        wtm_at "rd"
        intro l fl
        have kl := Same.new (o := .lst []) fl
        have nlp : l ≠ p := x.px.pool.offN fl
        have hl := @upd_same H1 l (.lst [])
        generalize upd H1 l (.lst []) = H2 at *
        wtm_at "rd"
        refine rd_ixT (SqT.of (kl _ _ (x.tu offT gs.gr.top))) (v := .ref n) rfl ?_
        refine rd_forT (SqT.of (kl _ _ (x.tu offT gs.gr.nodes))) ?_
        have okw : ∀ w ∈ m.kws, PyData.strOk w = true := fun w hw => by
          rw [x.kws] at hw
          rw [List.mem_singleton.mp hw]
          exact nmA.sok
        have eg1 : m.g = g := x.eg.trans eg
        have ep1 : m.ps = ps := x.eps.trans eps
        have flb : ∀ j, ((ns.take j).flatMap (abF (es.map (·.2)) m.f m.h)).length ≤ j := fun j => by
          have : ∀ xs : List Str, (xs.flatMap (abF (es.map (·.2)) m.f m.h)).length ≤ xs.length := fun xs => by
            induction xs with
            | nil => exact Nat.le_refl _
            | cons y r ih =>
              rw [List.flatMap_cons, List.length_append, List.length_cons]
              have : (abF (es.map (·.2)) m.f m.h y).length ≤ 1 := by
                unfold abF
                split
                · exact Nat.le_refl _
                · exact Nat.zero_le _
              omega
          refine Nat.le_trans (this _) ?_
          rw [List.length_take]
          exact Nat.min_le_left _ _
        refine turnsT (K := K) (xs := ns.map V.str) (fun j σ H' => (∃ u13 u14 : Option V, σ = [some (.ref a), some (.ref p), some (.ref g), some (.ref st), some (.ref ps), some (.ref lf), some (.ref m0.t), u7, u8, some (.ref cl), some (.ref rl), some (.int (0 + (i : Int))), some (.ref l), u13, u14, u15]) ∧ ∃ ts : List (Addr × Str × Int), Same H1 H' ∧ H' l = some (.lst (ts.map fun t => V.ref t.1)) ∧ TupsAt H' ts ∧ ts.map (·.2) = (ns.take j).flatMap (abF (es.map (·.2)) m.f m.h)) ⟨⟨_, _, rfl⟩, [], kl, hl, (fun _ h => nomatch h), rfl⟩ ?_ ?_ ?_
        · rintro j σ H' hj ⟨_, _, s, _⟩
          exact SqT.of (s _ _ (x.tu offT gs.gr.nodes))
        · rintro j y σ H3 hy ⟨⟨u13, u14, rfl⟩, ts, s3, hl, ta, et⟩
          obtain ⟨hj, rfl⟩ := map_at hy
          have yin := List.getElem_mem hj
          have tl : ts.length ≤ 100 := by
            have e1 := congrArg List.length et
            rw [List.length_map] at e1
            have := flb j
            omega
          rw [take_snoc hj, List.flatMap_append]
          generalize ns[j] = y at *
          wtm_at "rd"
          have x3 := x.same s3
          have gc3 : GSt H3 g n e cl ns ord es m.f := x3.gs offT gs rfl x3.hcl
          refine ⟨g, n, e, cl, rl, y, ns, ord, es, m.f, m.h, rfl, gc3, x3.hrl, yin, fun le H4 s4 fle hle => ?_⟩
          wtm_at "rd"
          have s34 := s3.trans s4
          have x4 := x.same s34
          have gu4 : GSt H4 m.g n e m.cu ns m.ord es m.f := by
            rw [eg1, x.eord]
            exact x4.gs offT gs rfl (x.eord ▸ x4.tm.cu)
          rw [← x.et]
          refine ⟨m, y, le, n, e, ns, pn, es, 0, rfl, x4.tm, gu4, x.elo, okw, by rw [ep1]; exact SqT.of (x4.tu offT hps), .inl ⟨rfl, yin, hle⟩, fun H5 s5 => ?_⟩
          wtm_at "rd"
          have s35 := s34.trans s5
          have x5 := x.same s35
          have ta5 := (ta.same s4).same s5
          have hl5 := s5 _ _ (s4 _ _ hl)
          have gc5 : GSt H5 g n e cl ns ord es m.f := x5.gs offT gs rfl x5.hcl
          refine rd_dat (.inl x5.hrl) (kvF_val yin) rfl ?_
          wtm_at "rd"
          have skip : ∀ {z}, abF (es.map (·.2)) m.f m.h y = [] → z = ((ts.map (·.2)) ++ [y].flatMap (abF (es.map (·.2)) m.f m.h)) → z = ts.map (·.2) := fun {z} e1 e2 => by
            rw [e2, List.flatMap_cons, e1]
            simp
          refine rd_nsplit (fun c1 => ?_) (fun c1 => ?_)
          · wtm_at "rd"
            intro z fz
            have kz := Same.new (o := .lst []) fz
            have hl6 := kz _ _ hl5
            have ta6 := ta5.same kz
            have s6 := s35.trans kz
            have x6 := x5.same kz
            refine rd_eqNilS (SqL.of (kz _ _ (s5 _ _ hle))) (SqL.of upd_same) (fun q hq => gs.sok _ (wait_mem gs.ok hq)) ?_
            generalize upd H5 z (.lst []) = H6 at *
            rw [x.et]
            wtm_at "rd"
            refine rd_b (fun c2 => ?_) (fun c2 => ?_)
            · have c2 : waitF (es.map (·.2)) m.f m.h y = [] := List.isEmpty_iff.mp c2
              wtm_at "rd"
              refine rd_tyL hl6 ?_
              wtm_at "rd"
              refine rd_dat (.inl x6.hrl) (kvF_val yin) rfl ?_
              wtm_at "rd"
              refine rd_split (fun c3 => ?_) (fun c3 => ?_)
              · wtm_at "rd"
                refine rd_dat (.inl x6.hcl) (kvF_val (gs.inO _ yin)) rfl ?_
                wtm_at "rd"
                intro t ft
                have kt := Same.new (o := .tup [.str y, .int ((m.f y + 2) % 3)]) ft
                have ht := @upd_same H6 t (.tup [.str y, .int ((m.f y + 2) % 3)])
                have hl7 := kt _ _ hl6
                have ta7 := ta6.same kt
                have s7 := s6.trans kt
                generalize upd H6 t (.tup [.str y, .int ((m.f y + 2) % 3)]) = H7 at *
                wtm_at "rd"
                refine rd_append hl7 (by rw [List.length_map]; omega) ?_
                refine ⟨⟨_, _, rfl⟩, ts ++ [(t, y, (m.f y + 2) % 3)], same_put s7 fl, by rw [upd_same, List.map_append]; rfl, (ta7.app fun q hq => by rw [List.mem_singleton.mp hq]; exact ht).put hl7, ?_⟩
                rw [List.map_append, et, List.flatMap_cons, show abF (es.map (·.2)) m.f m.h y = [(y, (m.f y + 2) % 3)] from by
                  unfold abF
                  rw [if_pos ⟨c1, c2⟩, if_pos c3]]
                simp
              · wtm_at "rd"
                refine rd_dat (.inl x6.hcl) (kvF_val (gs.inO _ yin)) rfl ?_
                wtm_at "rd"
                intro t ft
                have kt := Same.new (o := .tup [.str y, .int ((m.f y + 1) % 3)]) ft
                have ht := @upd_same H6 t (.tup [.str y, .int ((m.f y + 1) % 3)])
                have hl7 := kt _ _ hl6
                have ta7 := ta6.same kt
                have s7 := s6.trans kt
                generalize upd H6 t (.tup [.str y, .int ((m.f y + 1) % 3)]) = H7 at *
                wtm_at "rd"
                refine rd_append hl7 (by rw [List.length_map]; omega) ?_
                refine ⟨⟨_, _, rfl⟩, ts ++ [(t, y, (m.f y + 1) % 3)], same_put s7 fl, by rw [upd_same, List.map_append]; rfl, (ta7.app fun q hq => by rw [List.mem_singleton.mp hq]; exact ht).put hl7, ?_⟩
                rw [List.map_append, et, List.flatMap_cons, show abF (es.map (·.2)) m.f m.h y = [(y, (m.f y + 1) % 3)] from by
                  unfold abF
                  rw [if_pos ⟨c1, c2⟩, if_neg c3]]
                simp
            · have c2 : ¬ waitF (es.map (·.2)) m.f m.h y = [] := fun z => by
                rw [z] at c2
                cases c2
              wtm_at "rd"
              refine ⟨⟨_, _, rfl⟩, ts, s6, hl6, ta6, ?_⟩
              rw [et, List.flatMap_cons, show abF (es.map (·.2)) m.f m.h y = [] from if_neg fun z => c2 z.2]
              simp
          · wtm_at "rd"
            rw [x.et]
            refine ⟨⟨_, _, rfl⟩, ts, s35, hl5, ta5, ?_⟩
            rw [et, List.flatMap_cons, show abF (es.map (·.2)) m.f m.h y = [] from if_neg fun z => z.1 c1]
            simp
        · rintro σ H3 ⟨⟨u13, u14, rfl⟩, ts, s3, hl, ta, et⟩
          rw [List.length_map, List.take_length] at et
          rw [able_prog x.ok x.fe.pin] at et
          have x := x.same s3
          have gu3 : GSt H3 m.g n e m.cu ns m.ord es m.f := by
            rw [eg1, x.eord]
            exact x.gs offT gs rfl (x.eord ▸ x.tm.cu)
          wtm_at "rd"
          rw [← x.et]
          have legal : ∀ q ∈ progF ns (es.map (·.2)) m.f m.h pn, q.1 ∈ ns ∧ 0 ≤ q.2 ∧ q.2 < 3 := fun q hq => ⟨(prog_legal hq).1.mem, (prog_legal hq).1.val⟩
          have pall : (progF ns (es.map (·.2)) m.f m.h pn).filter (fun y => decide (y.1 ∈ m.oks ∧ m.own y.1 = ("all" : Str))) = progF ns (es.map (·.2)) m.f m.h pn := List.filter_eq_self.mpr fun q hq => decide_eq_true (x.ow _ (legal q hq).1)
          have hps3 := x.tu offT hps
          refine ⟨m, _, l, n, e, ns, pn, es, 1, rfl, x.tm, gu3, x.elo, okw, by rw [ep1]; exact SqT.of hps3, .inr ⟨rfl, by rw [x.kws]; exact List.mem_singleton.mpr rfl, ts, hl, ta, et.trans pall.symm⟩, fun H4 s4 => ?_⟩
          wtm_at "rd"
          have x := x.same s4
          have ta := ta.same s4
          have hl := s4 _ _ hl
          have tsl : ts.length ≤ 100 := by
            have := (pm_nodup (es := es.map (·.2)) (f := m.f) (h := m.h) (pn := pn) gs.nd)
            rw [← prog_eq x.ok (fun y hy => hy)] at this
            have := nodup_len this.1 this.2
            have e1 := congrArg List.length et
            rw [List.length_map] at this e1
            omega
          have tsk : ∀ q ∈ ts, PyData.strOk q.2.1 = true := fun q hq => gs.sok _ (legal _ (et ▸ List.mem_map_of_mem (f := fun m : Addr × Str × Int => m.2) hq)).1
          intro z fz
          have kz := Same.new (o := .lst []) fz
          refine rd_neMoves (kz _ _ hl) (ta.same kz) tsk upd_same ?_
          have hl := kz _ _ hl
          have x := x.same kz
          have ta := ta.same kz
          generalize upd H4 z (.lst []) = H5 at *
          wtm_at "rd"
          refine rd_b (fun c => ?_) (fun c => ?_)
          · have tsp : 0 < ts.length := by
              cases ts with
              | nil => cases c
              | cons _ _ => simp
            wtm_at "rd"
            refine rd_lenL (SqL.of hl) ?_
            rw [List.length_map]
            wtm_at "rd"
            refine use_draw x.px.pool (by omega) (by omega) fun r2 H6 r20 r21 g6 => ?_
            have hl := g6.at hl nlp
            have ta := ta.go x.px.pool g6
            have x := x.go g6
            clear g6
            obtain ⟨rn, rfl⟩ : ∃ k : Nat, r2 = (k : Int) := ⟨r2.toNat, by omega⟩
            have hrn : rn < ts.length := by omega
            refine rd_ixL (SqL.of hl) (v := .ref ts[rn].1) (atI_nat (by rw [List.getElem?_map, List.getElem?_eq_getElem hrn]; rfl)) ?_
            have mm := List.getElem_mem hrn
            generalize ts[rn] = mv at *
            obtain ⟨ta1, y, v⟩ := mv
            have ht := ta _ mm
            dsimp only at ht
            have yv : (y, v) ∈ progF ns (es.map (·.2)) m.f m.h pn := et ▸ List.mem_map_of_mem (f := fun m : Addr × Str × Int => m.2) mm
            obtain ⟨yin, v0, v3⟩ := legal _ yv
            refine rd_unp (SqT.of ht) rfl ?_
            wtm_at "rd"
            refine m.call_move x.tm.ins ?_
            wtm_at "rd"
            obtain ⟨as, eas, asl⟩ := x.ens
            obtain ⟨q2, q3⟩ := x.ow y yin
            have gcu : GSt H6 m.g n e m.cu ns m.ord es m.f := by
              rw [eg1, x.eord]
              exact x.gs offT gs rfl (x.eord ▸ x.tm.cu)
            refine ⟨m, _, y, v, n, e, ns, pn, es, rfl, x.tm, by rw [x.kws]; exact List.mem_singleton.mpr rfl, nmA.sok, gcu, x.elo, by rw [ep1]; exact SqT.of (x.tu offT hps), q2, q3, yv, by rw [eas, List.length_map]; omega, fun cu' re' a0 H8 k8 f1 f2 _ a8 => ?_⟩
            wtm_at "rd"
            rw [show (!decide (v = v)) = false from by simp]
            wtm_at "rd"
            have nt : ∀ {b : Addr} {o : HO}, H6 b = some o → (∀ Cx dx fs, o ≠ .ins Cx dx fs) → b ≠ m.t := fun {b o} hb n => ne_of hb x.tm.ins fun z => n _ _ _ z
            have dk8 : ∀ {b : Addr} {ys : List (Key × V)}, H6 b = some (.dK ys) → H8 b = some (.dK ys) := fun {b ys} hb => k8 _ _ (nt hb nofun) (ne_of hb x.tm.en nofun) hb
            have tu8 : ∀ {b : Addr} {ys : List V}, H6 b = some (.tup ys) → H8 b = some (.tup ys) := fun {b ys} hb => k8 _ _ (nt hb nofun) (ne_of hb x.tm.en nofun) hb
            have hcl8 := dk8 x.hcl
            have hrl8 := dk8 x.hrl
            have ncr : cl ≠ rl := ncr0
            have yo := gs.inO _ yin
            refine rd_dset hcl8 (k := .inr y) rfl (by rw [List.length_map, gs.pm.length_eq]; omega) ?_
            rw [kvF_put yo]
            have hrl9 := at_upd (o := .dK (kvF ord (updf m.f y v))) (Ne.symm ncr) hrl8
            have hcl9 := @upd_same H8 cl (.dK (kvF ord (updf m.f y v)))
            have k9 : ∀ b o, b ≠ cl → H8 b = some o → upd H8 cl (.dK (kvF ord (updf m.f y v))) b = some o := fun b o nb hb => at_upd nb hb
            generalize upd H8 cl (.dK (kvF ord (updf m.f y v))) = H9 at *
            have fin : ∀ w : Int, w = m.h y + (if 0 < m.h y then -1 else 1) → M87 Cl HD (upd H9 rl (.dK (kvF ns (updf m.h y w)))) p m0 { m with cu := cu', re := re', r := m.r + 1, ens := m.ens ++ [.ref a0], f := plU m.f [(y, v)], h := rdU m.h [(y, v)] } cl rl ns ord pn (es.map (·.2)) (i + 1) := fun w hw => by
              subst hw
              have kA : ∀ b o, b ≠ cl → b ≠ rl → H8 b = some o → upd H9 rl (.dK (kvF ns (updf m.h y (m.h y + (if 0 < m.h y then -1 else 1))))) b = some o := fun b o n1 n2 hb => at_upd n2 (k9 b o n1 hb)
              have hclA := at_upd (o := .dK (kvF ns (updf m.h y (m.h y + (if 0 < m.h y then -1 else 1))))) ncr hcl9
              have hrlA := @upd_same H9 rl (.dK (kvF ns (updf m.h y (m.h y + (if 0 < m.h y then -1 else 1)))))
              generalize upd H9 rl (.dK (kvF ns (updf m.h y (m.h y + (if 0 < m.h y then -1 else 1))))) = HA at *
              have ncu : cl ≠ cu' ∧ rl ≠ cu' := ⟨Ne.symm (ne_of_none2' x.hcl f1), Ne.symm (ne_of_none2' x.hrl f1)⟩
              have nre : cl ≠ re' ∧ rl ≠ re' := ⟨Ne.symm (ne_of_none2' x.hcl f2), Ne.symm (ne_of_none2' x.hrl f2)⟩
              have clow : cl ≠ m.ow := by rw [x.eow]; exact ncow.1
              have rlow : rl ≠ m.ow := by rw [x.eow]; exact ncow.2
              have a9 : TmAt Cl HA { m with cu := cu', re := re', r := m.r + 1, ens := m.ens ++ [.ref a0], f := plU m.f [(y, v)], h := rdU m.h [(y, v)] } := a8.of fun b o hb h => kA b o (by
                rcases hb with e | e | e | e | e | e <;> rw [e]
                · exact ne_of a8.ins hcl8 nofun
                · exact Ne.symm ncu.1
                · exact Ne.symm nre.1
                · exact ne_of a8.kw hcl8 nofun
                · exact Ne.symm clow
                · exact ne_of a8.en hcl8 nofun) (by
                rcases hb with e | e | e | e | e | e <;> rw [e]
                · exact ne_of a8.ins hrl8 nofun
                · exact Ne.symm ncu.2
                · exact Ne.symm nre.2
                · exact ne_of a8.kw hrl8 nofun
                · exact Ne.symm rlow
                · exact ne_of a8.en hrl8 nofun) h
              obtain ⟨ok9, fe9, _, _⟩ := prog_step x.ok gs.nd x.fe yv
              have kk : ∀ b o, b ≠ p → b ∉ [rl, cl, m0.en, m0.ow, m0.kw, m0.t] → H6 b = some o → HA b = some o := fun b o n1 n2 hb => by
                simp only [List.mem_cons, List.not_mem_nil, or_false, not_or] at n2
                exact kA b o n2.2.1 n2.1 (k8 b o (by rw [x.et]; exact n2.2.2.2.2.2) (by rw [x.een]; exact n2.2.2.1) hb)
              refine ⟨fun b o n1 n2 hb => kk b o n1 n2 (x.keep b o n1 n2 hb), x.px.keep fun b o nb hb _ => ?_, a9, x.et, x.eg, x.ekw, x.eow, x.een, x.eps, x.kws, x.eord, x.elo, hclA, hrlA, ⟨ncu.1, nre.1⟩, ⟨ncu.2, nre.2⟩, x.ow, ok9, fe9, ⟨as ++ [a0], by show m.ens ++ [.ref a0] = _; rw [eas, List.map_append]; rfl, by rw [List.length_append]; exact Nat.add_le_add_right asl 1⟩⟩
              have n2 := nb
              simp only [List.mem_cons, List.not_mem_nil, or_false, not_or] at n2
              exact kA b o n2.2.1 n2.1 (k8 b o (by rw [x.et]; exact n2.2.2.2.2.2) (by rw [x.een]; exact n2.2.2.1) hb)
            wtm_at "rd"
            refine rd_dat (.inl hrl9) (kvF_val yin) rfl ?_
            wtm_at "rd"
            refine rd_split (fun c1 => ?_) (fun c1 => ?_)
            · wtm_at "rd"
              refine rd_dat (.inl hrl9) (kvF_val yin) rfl ?_
              wtm_at "rd"
              refine rd_dset hrl9 (k := .inr y) rfl (by rw [List.length_map]; omega) ?_
              rw [kvF_put yin, x.et]
              exact ⟨⟨_, _, _, _, _, _, _, rfl⟩, _, fin _ (by rw [if_pos c1]; show m.h y - 1 = m.h y + -1; omega)⟩
            · wtm_at "rd"
              refine rd_dat (.inl hrl9) (kvF_val yin) rfl ?_
              wtm_at "rd"
              refine rd_dset hrl9 (k := .inr y) rfl (by rw [List.length_map]; omega) ?_
              rw [kvF_put yin, x.et]
              exact ⟨⟨_, _, _, _, _, _, _, rfl⟩, _, fin _ (by rw [if_neg c1])⟩
          · wtm_at "rd"
            rw [x.et]
            exact ⟨⟨_, _, _, _, _, _, _, rfl⟩, m, { x with ens := let ⟨as, e1, e2⟩ := x.ens; ⟨as, e1, by omega⟩ }⟩
      · rintro σ H1 ⟨⟨u7, u8, u11, u12, u13, u14, u15, rfl⟩, m, x⟩
        wtm_at "rd"
        exact q _
end
end Law

/-! the law's own head, one table of code objects tracked -/
namespace U
open PySem PySem.Spec PyProof.Rows L2 LamX
theorem law_GT {P : Program} {w : World} {K : PySem.W.Frag} {mg mb : Str → Option Value} {k : Nat} {fa a c T : Addr} {fd : FuncData} {x : Str} {sp : Sp} {s₁ : Shared} {vs : List Value} {ns : List Int}
    (KX : K.In s₁.heap) (hns : s₁.heap.Ns mainGlobals mg) (hb : s₁.heap.Ns builtinsNs mb) (hbb : ∀ x : Str, x ≠ "__name__" → mb x = bootBuiltins x) (hlim : s₁.heap.NoLimit) (hg : s₁.gens = #[])
    (hT : s₁.heap.get? T = some { cls := .none, data := .fields #[] }) (nT : K.lookup T = none) (CH : PySem.W.CodeHd s₁.heap c T)
    (hbm : ∃ (bm : Addr) (ob : Obj), mg "__builtins__" = some (.ref bm) ∧ bm ≠ builtinsNs ∧ s₁.heap.get? bm = some ob ∧ ob.cls = .type "module" ∧ ob.dict = some builtinsNs ∧ ob.data = .plain)
    (ha : s₁.heap.get? a = some { cls := .type "list", data := .seq vs.toArray }) (hi : IntsAre vs ns) (hl : ns.length ≤ sizeLine) (hr : Room k callerA)
    (F : ∀ base : Heap, K.In base → base.Ns mainGlobals mg → TabB base mg c T → FnG P w K mg base CX0 k fa fd [x] sp) (hbind : ∀ (s : Shared) (u : Value), BindsTo s fd ⟨[u], []⟩ [(x, u)])
    (hsp : ∀ H : Hp, H T = some (.tbl #[]) → SqL K H a (ns.map V.int) → sp [.ref a] H (fun v _ => v = .bl true) fun _ _ _ => False) :
    codeAny (model P w) callerA (.call (.ref fa) ⟨[.ref a], []⟩) (fun r s' => r = .ok (.ret (.bool true)) ∧ OldK s₁.heap s'.heap ∧ s'.os = s₁.os ∧ AllBare s'.gens) s₁ := by
  have rv := vals_ints hi
  have lenV := hi.length
  have aT : a ≠ T := fun z => by
    rw [z, hT] at ha
    have := congrArg Obj.data (Option.some.inj ha)
    cases this
  have main : ∀ H : Hp, H T = some (.tbl #[]) → (∀ b, H b = none ∨ b = T ∨ ∃ o xs, H b = some (.frz o (.lst xs))) → SqL K H a (ns.map V.int) → HOk P w H s₁.heap → (∀ b, H b ≠ none → b = a ∨ b = T) → (H a ≠ none → K.lookup a = none) →
      codeAny (model P w) callerA (.call (.ref fa) ⟨[.ref a], []⟩) (fun r s' => r = .ok (.ret (.bool true)) ∧ OldK s₁.heap s'.heap ∧ s'.os = s₁.os ∧ AllBare s'.gens) s₁ := by
    intro H hH only seq ok two own
    have unseen : ∀ {b : Addr} {o : Obj}, s₁.heap.get? b = some o → (∀ vs n, o.data ≠ .seq vs n) → o.data ≠ .fields #[] → H b = none := by
      intro b o e d1 d2
      cases q : H b with
      | none => rfl
      | some u =>
        rcases two b (by rw [q]; simp) with rfl | rfl
        · obtain rfl := Option.some.inj (ha.symm.trans e)
          exact (d1 _ _ rfl).elim
        · obtain rfl := Option.some.inj (hT.symm.trans e)
          exact (d2 rfl).elim
    have stays : ∀ {b : Addr} {m : Str → Option Value}, s₁.heap.Ns b m → (hidT s₁.heap H).Ns b m := by
      rintro b m ⟨o, es, ep, e, d, r⟩
      exact ⟨o, es, ep, hidT_get e (unseen e (fun _ _ z => by rw [d] at z; cases z) fun z => by rw [d] at z; cases z), d, r⟩
    have kin : K.In (hidT s₁.heap H) := by
      intro b o e
      refine hidT_get (KX b o e) ?_
      cases q : H b with
      | none => rfl
      | some u =>
        rcases two b (by rw [q]; simp) with rfl | rfl
        · rw [own (by rw [q]; simp)] at e
          cases e
        · rw [nT] at e
          cases e
    have md : Mod K mg (hidT s₁.heap H) := ⟨kin, stays hns, ⟨mb, stays hb, hbb⟩, by
      obtain ⟨mc, h1, h2⟩ := hlim
      exact ⟨mc, stays h1, h2⟩⟩
    have tab : TabB (hidT s₁.heap H) mg c T := by
      refine ⟨?_, ?_, fun z => ?_⟩
      · obtain ⟨o, us, file, tf, flags, tg, inF, text, tt, e1, r1, r2, r3, r4, r5, r6, r7, r8, r9⟩ := CH
        refine ⟨o, us, file, tf, flags, tg, inF, text, tt, hidT_get e1 (unseen e1 (fun _ _ z => by rw [r2] at z; cases z) fun z => ?_), r1, r2, r3, r4, r5, r6, r7, r8, r9⟩
        rw [r2] at z
        obtain rfl := Data.fields.inj z
        simp at r3
      · obtain ⟨bm, ob, b1, b2, b3, b4, b5, b6⟩ := hbm
        refine ⟨bm, ob, b1, b2, fun z => ?_, fun z => ?_, hidT_get b3 (unseen b3 (fun _ _ z => by rw [b6] at z; cases z) fun z => by rw [b6] at z; cases z), b4, b5, b6⟩
        · obtain ⟨o, es, ep, e, hd, _⟩ := hns
          rw [z, e] at b3
          obtain rfl := Option.some.inj b3
          rw [hd] at b6
          cases b6
        · rw [z, hT] at b3
          obtain rfl := Option.some.inj b3
          cases b6
      · obtain ⟨o, es, ep, e, hd, _⟩ := hns
        rw [z, hT] at e
        obtain rfl := Option.some.inj e
        cases hd
    have e0 : Env0 P w K mg (hidT s₁.heap H) callerA [] s₁ H := ⟨rfl, md, fun b o e => of_hidT e, Nat.le_of_eq (hidT_size _ _), trivial, fun b z => (List.not_mem_nil z).elim, ok, .of_eq hg⟩
    refine codeAny_mono ((F _ kin (stays hns) tab).go callerA [] s₁ H ⟨[.ref a], []⟩ [.ref a] [.ref a] _ _ ⟨hr, rfl⟩ e0 (hbind s₁ (.ref a)) (.cons rfl .nil) (hsp H hH seq)) ?_
    intro r s' h
    cases r with
    | error e => exact h.elim
    | ok fl =>
      cases fl with
      | next => exact h.elim
      | brk => exact h.elim
      | cont => exact h.elim
      | ret u =>
        obtain ⟨v, H', os, bare, un, ok', r', q⟩ := h
        have q' : v = .bl true := q
        subst q'
        obtain rfl : u = Value.bool true := r'
        have key : ∀ b o, b ≠ T → s₁.heap.get? b = some o → s'.heap.get? b = some o := by
          intro b o nb e
          cases q : H b with
          | none => exact un.keep b o e q (fun z => (List.not_mem_nil z).elim) (fun z => (List.not_mem_nil z).elim)
          | some u =>
            rcases only b with z | z | ⟨ob, xs, z⟩
            · rw [q] at z; cases z
            · exact (nb z).elim
            · obtain ⟨e1, _⟩ := ok b _ z
              obtain ⟨e2, _⟩ := ok' b _ (un.frzs b ob _ z)
              exact (Option.some.inj (e1.symm.trans e)) ▸ e2
        obtain ⟨more, z⟩ := un.tbls T #[] hH
        have grown := ok' T _ z
        refine ⟨rfl, ⟨fun b o e => ?_, fun b o e => ?_⟩, os, bare⟩
        · by_cases hb : b = T
          · subst hb
            obtain rfl := Option.some.inj (hT.symm.trans e)
            exact .inr (.inl ⟨(CH.tab hT).isCodeTable, rfl, #[], _, rfl, grown⟩)
          · exact .inl (key b o hb e)
        · by_cases hb : b = T
          · subst hb
            exact ⟨_, grown⟩
          · exact ⟨o, key b o hb e⟩
  cases hk : K.lookup a with
  | some o =>
    obtain rfl := Option.some.inj (ha.symm.trans (KX a o hk))
    refine main (fun b => if b = T then some (.tbl #[]) else none) (if_pos rfl) (fun b => ?_) (.inr ⟨_, vs.toArray, _, hk, rfl, rfl, rfl, ?_, by simpa using rv⟩) (fun b u z => ?_) (fun b z => ?_) fun z => (z (if_neg aT)).elim
    · by_cases e : b = T
      · exact .inr (.inl e)
      · exact .inl (if_neg e)
    · rw [List.size_toArray, lenV]
      exact hl
    · by_cases e : b = T
      · subst e
        obtain rfl := Option.some.inj ((if_pos rfl).symm.trans z)
        exact hT
      · exact nomatch (if_neg e).symm.trans z
    · by_cases e : b = T
      · exact .inr e
      · exact absurd (if_neg e) z
  | none =>
    refine main (fun b => if b = a then some (.frz { cls := .type "list", data := .seq vs.toArray } (.lst (ns.map V.int))) else if b = T then some (.tbl #[]) else none) ((if_neg aT.symm).trans (if_pos rfl)) (fun b => ?_) (.inl (.inr ⟨_, if_pos rfl⟩)) (fun b u z => ?_) (fun b z => ?_) fun _ => hk
    · by_cases hb : b = a
      · exact .inr (.inr ⟨_, _, if_pos hb⟩)
      · by_cases e : b = T
        · exact .inr (.inl e)
        · exact .inl ((if_neg hb).trans (if_neg e))
    · by_cases hb : b = a
      · subst hb
        obtain rfl := Option.some.inj ((if_pos rfl).symm.trans z)
        exact ⟨ha, by rw [List.length_map]; exact hl, vs, _, rv, ha⟩
      · by_cases e : b = T
        · subst e
          obtain rfl := Option.some.inj (((if_neg hb).trans (if_pos rfl)).symm.trans z)
          exact hT
        · exact nomatch ((if_neg hb).trans (if_neg e)).symm.trans z
    · by_cases hb : b = a
      · exact .inl hb
      · by_cases e : b = T
        · exact .inr e
        · exact absurd ((if_neg hb).trans (if_neg e)) z
/-- the same, the table told by the fragment -/
theorem walk_GY {l : PySem.W.OpenLaw} {n k : Nat} {q : Program} {loose : List Str} {XP : (Str → Option Value) → Heap → Prop} {YP : World → Heap → Prop} {d dy : DefRec} {K : Params → PySem.W.Frag} {sp : PySem.W.Frag → Addr → Sp} {x y : Str}
    (hn : l.most = some n) (hn2 : n ≤ sizeLine) (hdf : d.params.defaults = []) (hr : Room k callerA) (hrec : (recsOf q).find? (fun e => e.name == y) = some dy)
    (hY : ∀ (w : World) (h : Heap), YP w h → (K w.params).In h)
    (F : ∀ (w : World) (mg : Str → Option Value) (fa : Addr) (h : Heap), (K w.params).In h → h.Ns mainGlobals mg → mg d.name = some (.ref fa) →
      ∃ (fd : FuncData) (c T : Addr), PySem.W.tabIn (K w.params) y = some (c, T) ∧ (K w.params).lookup T = none ∧ (∀ (s : Shared) (u : Value), BindsTo s fd ⟨[u], []⟩ [(x, u)]) ∧
        ∀ base : Heap, (K w.params).In base → base.Ns mainGlobals mg → TabB base mg c T → FnG l.prog w (K w.params) mg base CX0 k fa fd [x] (sp (K w.params) T))
    (hsp : ∀ (K : PySem.W.Frag) (T : Addr) (H : Hp) (a : Addr) (ns : List Int), ns.length ≤ n → H T = some (.tbl #[]) → SqL K H a (ns.map V.int) → sp K T [.ref a] H (fun v _ => v = .bl true) fun _ _ _ => False) :
    PySem.W.WalkO q loose XP YP l.row.toRowW d [] (fun f vs => PySem.call f vs) := by
  refine Att.attach_callB hn hdf ?_
  intro w s₀ s₁ mg mb fa o pm cd doc a vs ns G Y ho hd hcd hmg hobj hints hlen bits hg
  obtain ⟨fd, c, T, hin, nT, hb, hF⟩ := F w mg fa _ (hY w _ Y) G.T.g hmg
  obtain ⟨CH, hT⟩ := PySem.W.tab_of G.T (hY w _ Y) hrec hin
  exact law_GT (hY w _ Y) G.T.g G.T.b G.T.builtins G.T.nolimit hg hT nT CH G.T.bmain hobj hints (Nat.le_trans hlen hn2) hr hF hb fun H h1 seq => hsp _ T H a ns hlen h1 seq
end U
namespace U
open PySem PySem.Spec PyProof.Rows L2
theorem tab_mk {K : PySem.W.Frag} {x : Str} {f c T : Addr} {oc oc2 : Value} {od od2 : Option Addr} {fd : FuncData} {sl sl2 : Array (Option Value)} {vs : Array Value} (h1 : PySem.W.nsIn K mainGlobals x = some (some (.ref f))) (h2 : K.lookup f = some ⟨oc, od, .func fd, sl⟩) (h3 : fd.code = .ref c)
    (h4 : K.lookup c = some ⟨oc2, od2, .fields vs, sl2⟩) (h5 : (vs[11]? : Option Value) = some (.ref T)) : PySem.W.tabIn K x = some (c, T) := by
  unfold PySem.W.tabIn
  rw [h1]
  simp only
  rw [h2]
  simp only
  rw [h3]
  simp only
  rw [h4]
  simp only
  rw [h5]
end U

end
namespace Law
open PySem PySem.Spec PyProof.Rows L2 U LamX
theorem all_mk {l : PySem.W.OpenLaw} {w : World} {K : PySem.W.Frag} {h : Heap} {mg : Str → Option Value} {fa : Addr} (X : K.In h) (G : h.Ns mainGlobals mg) (hfa : mg "law" = some (.ref fa))
    {CT : Addr}
    {od0 an0 : Option Addr} {sl0 : Array (Option Value)} {f0 : Addr} {oc0 kV0 dc0 pm0 cd0 ct0 : Value}
    {od1 an1 : Option Addr} {sl1 : Array (Option Value)} {f1 : Addr} {oc1 kV1 dc1 pm1 cd1 ct1 : Value}
    {od2 an2 : Option Addr} {sl2 : Array (Option Value)} {f2 : Addr} {oc2 kV2 dc2 pm2 cd2 ct2 : Value}
    {od3 an3 : Option Addr} {sl3 : Array (Option Value)} {f3 : Addr} {oc3 kV3 dc3 pm3 cd3 ct3 : Value}
    {od4 an4 : Option Addr} {sl4 : Array (Option Value)} {f4 : Addr} {oc4 kV4 dc4 pm4 cd4 ct4 : Value}
    {od5 an5 : Option Addr} {sl5 : Array (Option Value)} {f5 : Addr} {oc5 kV5 dc5 pm5 cd5 ct5 : Value}
    {od6 an6 : Option Addr} {sl6 : Array (Option Value)} {f6 : Addr} {oc6 kV6 dc6 pm6 cd6 ct6 : Value}
    {od7 an7 : Option Addr} {sl7 : Array (Option Value)} {f7 : Addr} {oc7 kV7 dc7 pm7 cd7 ct7 : Value}
    {od8 an8 : Option Addr} {sl8 : Array (Option Value)} {f8 : Addr} {oc8 kV8 dc8 pm8 cd8 ct8 : Value}
    {od9 an9 : Option Addr} {sl9 : Array (Option Value)} {f9 : Addr} {oc9 kV9 dc9 pm9 cd9 ct9 : Value}
    {od10 an10 : Option Addr} {sl10 : Array (Option Value)} {f10 : Addr} {oc10 kV10 dc10 pm10 cd10 ct10 : Value}
    {od11 an11 : Option Addr} {sl11 : Array (Option Value)} {f11 : Addr} {oc11 kV11 dc11 pm11 cd11 ct11 : Value}
    {od12 an12 : Option Addr} {sl12 : Array (Option Value)} {f12 : Addr} {oc12 kV12 dc12 pm12 cd12 ct12 : Value}
    {od13 an13 : Option Addr} {sl13 : Array (Option Value)} {f13 : Addr} {oc13 kV13 dc13 pm13 cd13 ct13 : Value}
    {od14 an14 : Option Addr} {sl14 : Array (Option Value)} {f14 : Addr} {oc14 kV14 dc14 pm14 cd14 ct14 : Value}
    {od15 an15 : Option Addr} {sl15 : Array (Option Value)} {f15 : Addr} {oc15 kV15 dc15 pm15 cd15 ct15 : Value}
    {od16 an16 : Option Addr} {sl16 : Array (Option Value)} {f16 : Addr} {oc16 kV16 dc16 pm16 cd16 ct16 : Value}
    {od17 an17 : Option Addr} {sl17 : Array (Option Value)} {f17 : Addr} {oc17 kV17 dc17 pm17 cd17 ct17 : Value}
    {od18 an18 : Option Addr} {sl18 : Array (Option Value)} {f18 : Addr} {oc18 kV18 dc18 pm18 cd18 ct18 : Value}
    {od19 an19 : Option Addr} {sl19 : Array (Option Value)} {f19 : Addr} {oc19 kV19 dc19 pm19 cd19 ct19 : Value}
    {od20 an20 : Option Addr} {sl20 : Array (Option Value)} {f20 : Addr} {oc20 kV20 dc20 pm20 ct20 : Value} {C0 T0 : Addr} {ocC : Value} {odC : Option Addr} {vsC : Array Value} {slC : Array (Option Value)}
    {od21 an21 : Option Addr} {sl21 : Array (Option Value)} {f21 : Addr} {oc21 kV21 dc21 pm21 cd21 ct21 : Value}
    {od22 an22 : Option Addr} {sl22 : Array (Option Value)} {f22 : Addr} {oc22 kV22 dc22 pm22 cd22 ct22 : Value}
    {od23 an23 : Option Addr} {sl23 : Array (Option Value)} {f23 : Addr} {oc23 kV23 dc23 pm23 cd23 ct23 : Value}
    {od24 an24 : Option Addr} {sl24 : Array (Option Value)} {f24 : Addr} {oc24 kV24 dc24 pm24 cd24 ct24 : Value}
    {od25 an25 : Option Addr} {sl25 : Array (Option Value)} {f25 : Addr} {oc25 kV25 dc25 pm25 cd25 ct25 : Value}
    {od26 an26 : Option Addr} {sl26 : Array (Option Value)} {f26 : Addr} {oc26 kV26 dc26 pm26 cd26 ct26 : Value}
    {od27 an27 : Option Addr} {sl27 : Array (Option Value)} {f27 : Addr} {oc27 kV27 dc27 pm27 cd27 ct27 : Value}
    {od28 an28 : Option Addr} {sl28 : Array (Option Value)} {f28 : Addr} {oc28 kV28 dc28 pm28 cd28 ct28 : Value}
    {D29 T29 : Addr} {odT29 : Option Addr} {nT29 : Nat} {slT29 : Array (Option Value)}
    {od29 an29 : Option Addr} {sl29 : Array (Option Value)} {f29 : Addr} {oc29 dc29 pm29 cd29 ct29 : Value}
    {od30 an30 : Option Addr} {sl30 : Array (Option Value)} {f30 : Addr} {oc30 kV30 dc30 pm30 cd30 ct30 : Value}
    {od31 an31 : Option Addr} {sl31 : Array (Option Value)} {f31 : Addr} {oc31 kV31 dc31 pm31 cd31 ct31 : Value}
    {od32 an32 : Option Addr} {sl32 : Array (Option Value)} {f32 : Addr} {oc32 kV32 dc32 pm32 cd32 ct32 : Value}
    {od33 an33 : Option Addr} {sl33 : Array (Option Value)} {f33 : Addr} {oc33 kV33 dc33 pm33 cd33 ct33 : Value}
    {od34 an34 : Option Addr} {sl34 : Array (Option Value)} {f34 : Addr} {oc34 kV34 dc34 pm34 cd34 ct34 : Value}
    {od35 an35 : Option Addr} {sl35 : Array (Option Value)} {f35 : Addr} {oc35 kV35 dc35 pm35 cd35 ct35 : Value}
    {od36 an36 : Option Addr} {sl36 : Array (Option Value)} {f36 : Addr} {oc36 kV36 dc36 pm36 cd36 ct36 : Value}
    {od37 an37 : Option Addr} {sl37 : Array (Option Value)} {f37 : Addr} {oc37 kV37 dc37 pm37 cd37 ct37 : Value}
    {od38 an38 : Option Addr} {sl38 : Array (Option Value)} {f38 : Addr} {oc38 kV38 dc38 pm38 cd38 ct38 : Value}
    {od39 an39 : Option Addr} {sl39 : Array (Option Value)} {f39 : Addr} {oc39 kV39 dc39 pm39 cd39 ct39 : Value}
    {od40 an40 : Option Addr} {sl40 : Array (Option Value)} {f40 : Addr} {oc40 kV40 dc40 pm40 cd40 ct40 : Value}
    {od41 an41 : Option Addr} {sl41 : Array (Option Value)} {f41 : Addr} {oc41 kV41 dc41 pm41 cd41 ct41 : Value}
    {od42 an42 : Option Addr} {sl42 : Array (Option Value)} {f42 : Addr} {oc42 kV42 dc42 pm42 cd42 ct42 : Value}
    {od43 an43 : Option Addr} {sl43 : Array (Option Value)} {f43 : Addr} {oc43 kV43 dc43 pm43 cd43 ct43 : Value}
    {tk0 : Tok}
    {tk1 : Tok}
    {tk2 : Tok}
    {tk3 : Tok}
    {CQ0 fQ0 : Addr} {nmQ0 qQ0 : Str} {NQ0 : Addr} {bsQ0 : List Value} {snQ0 : List Str} {subQ0 : List Value} {abQ0 : Bool} {colQ0 : Option Bool} {ddQ0 : Option Addr} {maQ0 mbQ0 mcQ0 mdQ0 meQ0 : Option Value} {odQ0 anQ0 : Option Addr} {slQ0 : Array (Option Value)} {ocQ0 kVQ0 dcQ0 pmQ0 cdQ0 ctQ0 : Value}
    {CQ1 fQ1 : Addr} {nmQ1 qQ1 : Str} {NQ1 : Addr} {bsQ1 : List Value} {snQ1 : List Str} {subQ1 : List Value} {abQ1 : Bool} {colQ1 : Option Bool} {ddQ1 : Option Addr} {maQ1 mbQ1 mcQ1 mdQ1 meQ1 : Option Value} {odQ1 anQ1 : Option Addr} {slQ1 : Array (Option Value)} {ocQ1 kVQ1 dcQ1 pmQ1 cdQ1 ctQ1 : Value}
    (tCTa : PySem.W.nsIn K mainGlobals "Team" = some (some (.ref CT))) (tCTb : PySem.W.makesIn K CT = true) (tCTc : PySem.W.keepIn K (.ref CT) = true) (tCTd : PySem.W.plainGet K CT Str.empty = true) (tCTe : PySem.W.hasDictIn K CT = true) (tCTf : PySem.W.plainOver K CT = true) (tCTg : PySem.W.findIn K (.ref CT) "__setattr__" = some (some (.builtin "object.__setattr__")))
    (tCTh0 : PySem.W.findIn K (.ref CT) "own_graph" = some none)
    (tCTh1 : PySem.W.findIn K (.ref CT) "current" = some none)
    (tCTh2 : PySem.W.findIn K (.ref CT) "rest" = some none)
    (tCTh3 : PySem.W.findIn K (.ref CT) "own_pins" = some none)
    (tCTh4 : PySem.W.findIn K (.ref CT) "known_workers" = some none)
    (tCTh5 : PySem.W.findIn K (.ref CT) "owners" = some none)
    (tCTh6 : PySem.W.findIn K (.ref CT) "entries" = some none)
    (tCTh7 : PySem.W.findIn K (.ref CT) "rounds_done" = some none)
    (a0 : PySem.W.nsIn K mainGlobals "is_node" = some (some (.ref f0))) (l0 : K.lookup f0 = some ⟨oc0, od0, .func (PySem.W.fnOf "is_node" "is_node" (defArgs s_is_node) (defBody s_is_node) (defScope s_is_node) .none kV0 dc0 pm0 an0 cd0 ct0), sl0⟩) (c0 : PySem.W.codeIn K cd0 "is_node" = true) (k0 : PySem.W.keepIn K (.ref f0) = true)
    (a1 : PySem.W.nsIn K mainGlobals "has_node" = some (some (.ref f1))) (l1 : K.lookup f1 = some ⟨oc1, od1, .func (PySem.W.fnOf "has_node" "has_node" (defArgs s_has_node) (defBody s_has_node) (defScope s_has_node) .none kV1 dc1 pm1 an1 cd1 ct1), sl1⟩) (c1 : PySem.W.codeIn K cd1 "has_node" = true) (k1 : PySem.W.keepIn K (.ref f1) = true)
    (a2 : PySem.W.nsIn K mainGlobals "adjacency" = some (some (.ref f2))) (l2 : K.lookup f2 = some ⟨oc2, od2, .func (PySem.W.fnOf "adjacency" "adjacency" (defArgs s_adjacency) (defBody s_adjacency) (defScope s_adjacency) .none kV2 dc2 pm2 an2 cd2 ct2), sl2⟩) (c2 : PySem.W.codeIn K cd2 "adjacency" = true) (k2 : PySem.W.keepIn K (.ref f2) = true)
    (a3 : PySem.W.nsIn K mainGlobals "slope" = some (some (.ref f3))) (l3 : K.lookup f3 = some ⟨oc3, od3, .func (PySem.W.fnOf "slope" "slope" (defArgs s_slope) (defBody s_slope) (defScope s_slope) .none kV3 dc3 pm3 an3 cd3 ct3), sl3⟩) (c3 : PySem.W.codeIn K cd3 "slope" = true) (k3 : PySem.W.keepIn K (.ref f3) = true)
    (a4 : PySem.W.nsIn K mainGlobals "is_integer" = some (some (.ref f4))) (l4 : K.lookup f4 = some ⟨oc4, od4, .func (PySem.W.fnOf "is_integer" "is_integer" (defArgs s_is_integer) (defBody s_is_integer) (defScope s_is_integer) .none kV4 dc4 pm4 an4 cd4 ct4), sl4⟩) (c4 : PySem.W.codeIn K cd4 "is_integer" = true) (k4 : PySem.W.keepIn K (.ref f4) = true)
    (a5 : PySem.W.nsIn K mainGlobals "closer_to_zero" = some (some (.ref f5))) (l5 : K.lookup f5 = some ⟨oc5, od5, .func (PySem.W.fnOf "closer_to_zero" "closer_to_zero" (defArgs s_closer_to_zero) (defBody s_closer_to_zero) (defScope s_closer_to_zero) .none kV5 dc5 pm5 an5 cd5 ct5), sl5⟩) (c5 : PySem.W.codeIn K cd5 "closer_to_zero" = true) (k5 : PySem.W.keepIn K (.ref f5) = true)
    (a6 : PySem.W.nsIn K mainGlobals "check_distinct" = some (some (.ref f6))) (l6 : K.lookup f6 = some ⟨oc6, od6, .func (PySem.W.fnOf "check_distinct" "check_distinct" (defArgs s_check_distinct) (defBody s_check_distinct) (defScope s_check_distinct) .none kV6 dc6 pm6 an6 cd6 ct6), sl6⟩) (c6 : PySem.W.codeIn K cd6 "check_distinct" = true) (k6 : PySem.W.keepIn K (.ref f6) = true)
    (a7 : PySem.W.nsIn K mainGlobals "_law_box" = some (some (.ref f7))) (l7 : K.lookup f7 = some ⟨oc7, od7, .func (PySem.W.fnOf "_law_box" "_law_box" (defArgs s__law_box) (defBody s__law_box) (defScope s__law_box) .none kV7 dc7 pm7 an7 cd7 ct7), sl7⟩) (c7 : PySem.W.codeIn K cd7 "_law_box" = true) (k7 : PySem.W.keepIn K (.ref f7) = true)
    (a8 : PySem.W.nsIn K mainGlobals "_law_draw" = some (some (.ref f8))) (l8 : K.lookup f8 = some ⟨oc8, od8, .func (PySem.W.fnOf "_law_draw" "_law_draw" (defArgs s__law_draw) (defBody s__law_draw) (defScope s__law_draw) .none kV8 dc8 pm8 an8 cd8 ct8), sl8⟩) (c8 : PySem.W.codeIn K cd8 "_law_draw" = true) (k8 : PySem.W.keepIn K (.ref f8) = true)
    (a9 : PySem.W.nsIn K mainGlobals "_law_neighbors" = some (some (.ref f9))) (l9 : K.lookup f9 = some ⟨oc9, od9, .func (PySem.W.fnOf "_law_neighbors" "_law_neighbors" (defArgs s__law_neighbors) (defBody s__law_neighbors) (defScope s__law_neighbors) .none kV9 dc9 pm9 an9 cd9 ct9), sl9⟩) (c9 : PySem.W.codeIn K cd9 "_law_neighbors" = true) (k9 : PySem.W.keepIn K (.ref f9) = true)
    (a10 : PySem.W.nsIn K mainGlobals "_law_unused_name" = some (some (.ref f10))) (l10 : K.lookup f10 = some ⟨oc10, od10, .func (PySem.W.fnOf "_law_unused_name" "_law_unused_name" (defArgs s__law_unused_name) (defBody s__law_unused_name) (defScope s__law_unused_name) .none kV10 dc10 pm10 an10 cd10 ct10), sl10⟩) (c10 : PySem.W.codeIn K cd10 "_law_unused_name" = true) (k10 : PySem.W.keepIn K (.ref f10) = true)
    (a11 : PySem.W.nsIn K mainGlobals "sloped_paths" = some (some (.ref f11))) (l11 : K.lookup f11 = some ⟨oc11, od11, .func (PySem.W.fnOf "sloped_paths" "sloped_paths" (defArgs s_sloped_paths) (defBody s_sloped_paths) (defScope s_sloped_paths) .none kV11 dc11 pm11 an11 cd11 ct11), sl11⟩) (c11 : PySem.W.codeIn K cd11 "sloped_paths" = true) (k11 : PySem.W.keepIn K (.ref f11) = true)
    (a12 : PySem.W.nsIn K mainGlobals "is_number_dict" = some (some (.ref f12))) (l12 : K.lookup f12 = some ⟨oc12, od12, .func (PySem.W.fnOf "is_number_dict" "is_number_dict" (defArgs s_is_number_dict) (defBody s_is_number_dict) (defScope s_is_number_dict) .none kV12 dc12 pm12 an12 cd12 ct12), sl12⟩) (c12 : PySem.W.codeIn K cd12 "is_number_dict" = true) (k12 : PySem.W.keepIn K (.ref f12) = true)
    (a13 : PySem.W.nsIn K mainGlobals "fits_edge" = some (some (.ref f13))) (l13 : K.lookup f13 = some ⟨oc13, od13, .func (PySem.W.fnOf "fits_edge" "fits_edge" (defArgs s_fits_edge) (defBody s_fits_edge) (defScope s_fits_edge) .none kV13 dc13 pm13 an13 cd13 ct13), sl13⟩) (c13 : PySem.W.codeIn K cd13 "fits_edge" = true) (k13 : PySem.W.keepIn K (.ref f13) = true)
    (a14 : PySem.W.nsIn K mainGlobals "progress_value" = some (some (.ref f14))) (l14 : K.lookup f14 = some ⟨oc14, od14, .func (PySem.W.fnOf "progress_value" "progress_value" (defArgs s_progress_value) (defBody s_progress_value) (defScope s_progress_value) .none kV14 dc14 pm14 an14 cd14 ct14), sl14⟩) (c14 : PySem.W.codeIn K cd14 "progress_value" = true) (k14 : PySem.W.keepIn K (.ref f14) = true)
    (a15 : PySem.W.nsIn K mainGlobals "after_moves" = some (some (.ref f15))) (l15 : K.lookup f15 = some ⟨oc15, od15, .func (PySem.W.fnOf "after_moves" "after_moves" (defArgs s_after_moves) (defBody s_after_moves) (defScope s_after_moves) .none kV15 dc15 pm15 an15 cd15 ct15), sl15⟩) (c15 : PySem.W.codeIn K cd15 "after_moves" = true) (k15 : PySem.W.keepIn K (.ref f15) = true)
    (a16 : PySem.W.nsIn K mainGlobals "_law_stem" = some (some (.ref f16))) (l16 : K.lookup f16 = some ⟨oc16, od16, .func (PySem.W.fnOf "_law_stem" "_law_stem" (defArgs s__law_stem) (defBody s__law_stem) (defScope s__law_stem) .none kV16 dc16 pm16 an16 cd16 ct16), sl16⟩) (c16 : PySem.W.codeIn K cd16 "_law_stem" = true) (k16 : PySem.W.keepIn K (.ref f16) = true)
    (a17 : PySem.W.nsIn K mainGlobals "_law_possible" = some (some (.ref f17))) (l17 : K.lookup f17 = some ⟨oc17, od17, .func (PySem.W.fnOf "_law_possible" "_law_possible" (defArgs s__law_possible) (defBody s__law_possible) (defScope s__law_possible) .none kV17 dc17 pm17 an17 cd17 ct17), sl17⟩) (c17 : PySem.W.codeIn K cd17 "_law_possible" = true) (k17 : PySem.W.keepIn K (.ref f17) = true)
    (a18 : PySem.W.nsIn K mainGlobals "_law_expected_waits" = some (some (.ref f18))) (l18 : K.lookup f18 = some ⟨oc18, od18, .func (PySem.W.fnOf "_law_expected_waits" "_law_expected_waits" (defArgs s__law_expected_waits) (defBody s__law_expected_waits) (defScope s__law_expected_waits) .none kV18 dc18 pm18 an18 cd18 ct18), sl18⟩) (c18 : PySem.W.codeIn K cd18 "_law_expected_waits" = true) (k18 : PySem.W.keepIn K (.ref f18) = true)
    (a19 : PySem.W.nsIn K mainGlobals "check_node" = some (some (.ref f19))) (l19 : K.lookup f19 = some ⟨oc19, od19, .func (PySem.W.fnOf "check_node" "check_node" (defArgs s_check_node) (defBody s_check_node) (defScope s_check_node) .none kV19 dc19 pm19 an19 cd19 ct19), sl19⟩) (c19 : PySem.W.codeIn K cd19 "check_node" = true) (k19 : PySem.W.keepIn K (.ref f19) = true)
    (a20 : PySem.W.nsIn K mainGlobals "smallest_path" = some (some (.ref f20))) (l20 : K.lookup f20 = some ⟨oc20, od20, .func (PySem.W.fnOf "smallest_path" "smallest_path" (defArgs s_smallest_path) (defBody s_smallest_path) (defScope s_smallest_path) .none kV20 dc20 pm20 an20 (.ref C0) ct20), sl20⟩) (c20 : PySem.W.codeIn K (.ref C0) "smallest_path" = true) (k20 : PySem.W.keepIn K (.ref f20) = true) (tl0 : K.lookup C0 = some ⟨ocC, odC, .fields vsC, slC⟩) (tl1 : (vsC[11]? : Option Value) = some (.ref T0)) (ty1 : K.lookup T0 = none)
    (a21 : PySem.W.nsIn K mainGlobals "is_lift" = some (some (.ref f21))) (l21 : K.lookup f21 = some ⟨oc21, od21, .func (PySem.W.fnOf "is_lift" "is_lift" (defArgs s_is_lift) (defBody s_is_lift) (defScope s_is_lift) .none kV21 dc21 pm21 an21 cd21 ct21), sl21⟩) (c21 : PySem.W.codeIn K cd21 "is_lift" = true) (k21 : PySem.W.keepIn K (.ref f21) = true)
    (a22 : PySem.W.nsIn K mainGlobals "progress_moves_with" = some (some (.ref f22))) (l22 : K.lookup f22 = some ⟨oc22, od22, .func (PySem.W.fnOf "progress_moves_with" "progress_moves_with" (defArgs s_progress_moves_with) (defBody s_progress_moves_with) (defScope s_progress_moves_with) .none kV22 dc22 pm22 an22 cd22 ct22), sl22⟩) (c22 : PySem.W.codeIn K cd22 "progress_moves_with" = true) (k22 : PySem.W.keepIn K (.ref f22) = true)
    (a23 : PySem.W.nsIn K mainGlobals "_law_random_names" = some (some (.ref f23))) (l23 : K.lookup f23 = some ⟨oc23, od23, .func (PySem.W.fnOf "_law_random_names" "_law_random_names" (defArgs s__law_random_names) (defBody s__law_random_names) (defScope s__law_random_names) .none kV23 dc23 pm23 an23 cd23 ct23), sl23⟩) (c23 : PySem.W.codeIn K cd23 "_law_random_names" = true) (k23 : PySem.W.keepIn K (.ref f23) = true)
    (a24 : PySem.W.nsIn K mainGlobals "_law_random_lift" = some (some (.ref f24))) (l24 : K.lookup f24 = some ⟨oc24, od24, .func (PySem.W.fnOf "_law_random_lift" "_law_random_lift" (defArgs s__law_random_lift) (defBody s__law_random_lift) (defScope s__law_random_lift) .none kV24 dc24 pm24 an24 cd24 ct24), sl24⟩) (c24 : PySem.W.codeIn K cd24 "_law_random_lift" = true) (k24 : PySem.W.keepIn K (.ref f24) = true)
    (a25 : PySem.W.findIn K (.ref CT) "check_worker" = some (some (.ref f25))) (u25 : PySem.W.isFn K (.ref f25) = true) (l25 : K.lookup f25 = some ⟨oc25, od25, .func (PySem.W.fnOf "check_worker" "Team.check_worker" (defArgs s_Team_check_worker) (defBody s_Team_check_worker) (defScope s_Team_check_worker) .none kV25 dc25 pm25 an25 cd25 ct25), sl25⟩) (c25 : PySem.W.codeIn K cd25 "Team.check_worker" = true) (k25 : PySem.W.keepIn K (.ref f25) = true)
    (a26 : PySem.W.findIn K (.ref CT) "perform_round" = some (some (.ref f26))) (u26 : PySem.W.isFn K (.ref f26) = true) (l26 : K.lookup f26 = some ⟨oc26, od26, .func (PySem.W.fnOf "perform_round" "Team.perform_round" (defArgs s_Team_perform_round) (defBody s_Team_perform_round) (defScope s_Team_perform_round) .none kV26 dc26 pm26 an26 cd26 ct26), sl26⟩) (c26 : PySem.W.codeIn K cd26 "Team.perform_round" = true) (k26 : PySem.W.keepIn K (.ref f26) = true)
    (a27 : PySem.W.nsIn K mainGlobals "neighbors" = some (some (.ref f27))) (l27 : K.lookup f27 = some ⟨oc27, od27, .func (PySem.W.fnOf "neighbors" "neighbors" (defArgs s_neighbors) (defBody s_neighbors) (defScope s_neighbors) .none kV27 dc27 pm27 an27 cd27 ct27), sl27⟩) (c27 : PySem.W.codeIn K cd27 "neighbors" = true) (k27 : PySem.W.keepIn K (.ref f27) = true)
    (a28 : PySem.W.nsIn K mainGlobals "cycle_at" = some (some (.ref f28))) (l28 : K.lookup f28 = some ⟨oc28, od28, .func (PySem.W.fnOf "cycle_at" "cycle_at" (defArgs s_cycle_at) (defBody s_cycle_at) (defScope s_cycle_at) .none kV28 dc28 pm28 an28 cd28 ct28), sl28⟩) (c28 : PySem.W.codeIn K cd28 "cycle_at" = true) (k28 : PySem.W.keepIn K (.ref f28) = true)
    (a29 : PySem.W.nsIn K mainGlobals "progress_moves" = some (some (.ref f29))) (l29 : K.lookup f29 = some ⟨oc29, od29, .func (PySem.W.fnOf "progress_moves" "progress_moves" (defArgs s_progress_moves) (defBody s_progress_moves) (defScope s_progress_moves) .none (.ref D29) dc29 pm29 an29 cd29 ct29), sl29⟩) (c29 : PySem.W.codeIn K cd29 "progress_moves" = true) (k29 : PySem.W.keepIn K (.ref f29) = true)
    (d29 : PySem.W.nsIn K D29 "pinned" = some (some (.ref T29))) (t29 : K.lookup T29 = some ⟨.type "tuple", odT29, .seq #[] nT29, slT29⟩)
    (a30 : PySem.W.nsIn K mainGlobals "_law_random_problem" = some (some (.ref f30))) (l30 : K.lookup f30 = some ⟨oc30, od30, .func (PySem.W.fnOf "_law_random_problem" "_law_random_problem" (defArgs s__law_random_problem) (defBody s__law_random_problem) (defScope s__law_random_problem) .none kV30 dc30 pm30 an30 cd30 ct30), sl30⟩) (c30 : PySem.W.codeIn K cd30 "_law_random_problem" = true) (k30 : PySem.W.keepIn K (.ref f30) = true)
    (a31 : PySem.W.findIn K (.ref CT) "assign" = some (some (.ref f31))) (u31 : PySem.W.isFn K (.ref f31) = true) (l31 : K.lookup f31 = some ⟨oc31, od31, .func (PySem.W.fnOf "assign" "Team.assign" (defArgs s_Team_assign) (defBody s_Team_assign) (defScope s_Team_assign) .none kV31 dc31 pm31 an31 cd31 ct31), sl31⟩) (c31 : PySem.W.codeIn K cd31 "Team.assign" = true) (k31 : PySem.W.keepIn K (.ref f31) = true)
    (a32 : PySem.W.nsIn K mainGlobals "cycle_nodes" = some (some (.ref f32))) (l32 : K.lookup f32 = some ⟨oc32, od32, .func (PySem.W.fnOf "cycle_nodes" "cycle_nodes" (defArgs s_cycle_nodes) (defBody s_cycle_nodes) (defScope s_cycle_nodes) .none kV32 dc32 pm32 an32 cd32 ct32), sl32⟩) (c32 : PySem.W.codeIn K cd32 "cycle_nodes" = true) (k32 : PySem.W.keepIn K (.ref f32) = true)
    (a33 : PySem.W.findIn K (.ref CT) "value_for" = some (some (.ref f33))) (u33 : PySem.W.isFn K (.ref f33) = true) (l33 : K.lookup f33 = some ⟨oc33, od33, .func (PySem.W.fnOf "value_for" "Team.value_for" (defArgs s_Team_value_for) (defBody s_Team_value_for) (defScope s_Team_value_for) .none kV33 dc33 pm33 an33 cd33 ct33), sl33⟩) (c33 : PySem.W.codeIn K cd33 "Team.value_for" = true) (k33 : PySem.W.keepIn K (.ref f33) = true)
    (a34 : PySem.W.findIn K (.ref CT) "available" = some (some (.ref f34))) (u34 : PySem.W.isFn K (.ref f34) = true) (l34 : K.lookup f34 = some ⟨oc34, od34, .func (PySem.W.fnOf "available" "Team.available" (defArgs s_Team_available) (defBody s_Team_available) (defScope s_Team_available) .none kV34 dc34 pm34 an34 cd34 ct34), sl34⟩) (c34 : PySem.W.codeIn K cd34 "Team.available" = true) (k34 : PySem.W.keepIn K (.ref f34) = true)
    (a35 : PySem.W.findIn K (.ref CT) "waits_for" = some (some (.ref f35))) (u35 : PySem.W.isFn K (.ref f35) = true) (l35 : K.lookup f35 = some ⟨oc35, od35, .func (PySem.W.fnOf "waits_for" "Team.waits_for" (defArgs s_Team_waits_for) (defBody s_Team_waits_for) (defScope s_Team_waits_for) .none kV35 dc35 pm35 an35 cd35 ct35), sl35⟩) (c35 : PySem.W.codeIn K cd35 "Team.waits_for" = true) (k35 : PySem.W.keepIn K (.ref f35) = true)
    (a36 : PySem.W.nsIn K mainGlobals "find_anchors" = some (some (.ref f36))) (l36 : K.lookup f36 = some ⟨oc36, od36, .func (PySem.W.fnOf "find_anchors" "find_anchors" (defArgs s_find_anchors) (defBody s_find_anchors) (defScope s_find_anchors) .none kV36 dc36 pm36 an36 cd36 ct36), sl36⟩) (c36 : PySem.W.codeIn K cd36 "find_anchors" = true) (k36 : PySem.W.keepIn K (.ref f36) = true)
    (a37 : PySem.W.nsIn K mainGlobals "_law_call" = some (some (.ref f37))) (l37 : K.lookup f37 = some ⟨oc37, od37, .func (PySem.W.fnOf "_law_call" "_law_call" (defArgs s__law_call) (defBody s__law_call) (defScope s__law_call) .none kV37 dc37 pm37 an37 cd37 ct37), sl37⟩) (c37 : PySem.W.codeIn K cd37 "_law_call" = true) (k37 : PySem.W.keepIn K (.ref f37) = true)
    (a38 : PySem.W.nsIn K mainGlobals "_law_same_twice" = some (some (.ref f38))) (l38 : K.lookup f38 = some ⟨oc38, od38, .func (PySem.W.fnOf "_law_same_twice" "_law_same_twice" (defArgs s__law_same_twice) (defBody s__law_same_twice) (defScope s__law_same_twice) .none kV38 dc38 pm38 an38 cd38 ct38), sl38⟩) (c38 : PySem.W.codeIn K cd38 "_law_same_twice" = true) (k38 : PySem.W.keepIn K (.ref f38) = true)
    (a39 : PySem.W.findIn K (.ref CT) "move_together" = some (some (.ref f39))) (u39 : PySem.W.isFn K (.ref f39) = true) (l39 : K.lookup f39 = some ⟨oc39, od39, .func (PySem.W.fnOf "move_together" "Team.move_together" (defArgs s_Team_move_together) (defBody s_Team_move_together) (defScope s_Team_move_together) .none kV39 dc39 pm39 an39 cd39 ct39), sl39⟩) (c39 : PySem.W.codeIn K cd39 "Team.move_together" = true) (k39 : PySem.W.keepIn K (.ref f39) = true)
    (a40 : PySem.W.nsIn K mainGlobals "check_lift" = some (some (.ref f40))) (l40 : K.lookup f40 = some ⟨oc40, od40, .func (PySem.W.fnOf "check_lift" "check_lift" (defArgs s_check_lift) (defBody s_check_lift) (defScope s_check_lift) .none kV40 dc40 pm40 an40 cd40 ct40), sl40⟩) (c40 : PySem.W.codeIn K cd40 "check_lift" = true) (k40 : PySem.W.keepIn K (.ref f40) = true)
    (a41 : PySem.W.findIn K (.ref CT) "move" = some (some (.ref f41))) (u41 : PySem.W.isFn K (.ref f41) = true) (l41 : K.lookup f41 = some ⟨oc41, od41, .func (PySem.W.fnOf "move" "Team.move" (defArgs s_Team_move) (defBody s_Team_move) (defScope s_Team_move) .none kV41 dc41 pm41 an41 cd41 ct41), sl41⟩) (c41 : PySem.W.codeIn K cd41 "Team.move" = true) (k41 : PySem.W.keepIn K (.ref f41) = true)
    (a42 : PySem.W.findIn K (.ref CT) "__init__" = some (some (.ref f42))) (u42 : PySem.W.isFn K (.ref f42) = true) (l42 : K.lookup f42 = some ⟨oc42, od42, .func (PySem.W.fnOf "__init__" "Team.__init__" (defArgs s_Team_init) (defBody s_Team_init) (defScope s_Team_init) .none kV42 dc42 pm42 an42 cd42 ct42), sl42⟩) (c42 : PySem.W.codeIn K cd42 "Team.__init__" = true) (k42 : PySem.W.keepIn K (.ref f42) = true)
    (a43 : PySem.W.nsIn K mainGlobals "law" = some (some (.ref f43))) (l43 : K.lookup f43 = some ⟨oc43, od43, .func (PySem.W.fnOf "law" "law" (defArgs s_law) (defBody s_law) (defScope s_law) .none kV43 dc43 pm43 an43 cd43 ct43), sl43⟩) (c43 : PySem.W.codeIn K cd43 "law" = true) (k43 : PySem.W.keepIn K (.ref f43) = true)
    (z0 : PySem.W.nsIn K mainGlobals "len" = some none)
    (z1 : PySem.W.nsIn K mainGlobals "abs" = some none)
    (z2 : PySem.W.nsIn K mainGlobals "max" = some none)
    (z3 : PySem.W.nsIn K mainGlobals "min" = some none)
    (z4 : PySem.W.nsIn K mainGlobals "sorted" = some none)
    (z5 : PySem.W.nsIn K mainGlobals "isinstance" = some none)
    (z6 : PySem.W.nsIn K mainGlobals "int" = some none)
    (z7 : PySem.W.nsIn K mainGlobals "list" = some none)
    (z8 : PySem.W.nsIn K mainGlobals "tuple" = some none)
    (z9 : PySem.W.nsIn K mainGlobals "str" = some none)
    (z10 : PySem.W.nsIn K mainGlobals "range" = some none)
    (z11 : PySem.W.nsIn K mainGlobals "enumerate" = some none)
    (z12 : PySem.W.nsIn K mainGlobals "dict" = some none)
    (z13 : PySem.W.nsIn K mainGlobals "sum" = some none)
    (z14 : PySem.W.nsIn K mainGlobals "all" = some none)
    (z15 : PySem.W.nsIn K mainGlobals "any" = some none)
    (z16 : PySem.W.nsIn K mainGlobals "repr" = some none)
    (z17 : PySem.W.nsIn K mainGlobals "set" = some none)
    (z18 : PySem.W.nsIn K mainGlobals "zip" = some none)
    (z19 : PySem.W.nsIn K mainGlobals "reversed" = some none)
    (z20 : PySem.W.nsIn K mainGlobals "bool" = some none)
    (w0 : PySem.W.nsIn K mainGlobals "DOWN" = some (some (.int (-1) tk0)))
    (w1 : PySem.W.nsIn K mainGlobals "LETTERS" = some (some (.str "abcdefghijklmnopqrstuvwxyz" tk1)))
    (w2 : PySem.W.nsIn K mainGlobals "MAX_NAME" = some (some (.int 8 tk2)))
    (w3 : PySem.W.nsIn K mainGlobals "UP" = some (some (.int 1 tk3)))
    (qa0 : PySem.W.nsIn K mainGlobals "UnknownNode" = some (some (.ref CQ0))) (qb0 : K.lookup CQ0 = some (excClassObj nmQ0 qQ0 CQ0 NQ0 bsQ0 bmKE true snQ0 subQ0 abQ0 colQ0 ddQ0 maQ0 mbQ0 mcQ0 mdQ0 meQ0 "LookupError.__new__")) (qc0 : PySem.W.findIn K (.ref CQ0) "__setattr__" = some (some (.builtin "object.__setattr__"))) (qd0 : PySem.W.findIn K (.ref CQ0) "__getattribute__" = some (some (.builtin "BaseException.__getattribute__"))) (qe0 : PySem.W.findIn K (.ref CQ0) "__getattr__" = some none) (qf0 : PySem.W.findIn K (.ref CQ0) "node" = some none) (qg0 : PySem.W.findIn K (.ref CQ0) "__init__" = some (some (.ref fQ0))) (qh0 : PySem.W.typeIn K (.ref fQ0) = some (.type "function")) (qi0 : K.lookup fQ0 = some ⟨ocQ0, odQ0, .func (PySem.W.fnOf "__init__" "UnknownNode.__init__" (defArgs s_UnknownNode_init) (defBody s_UnknownNode_init) (defScope s_UnknownNode_init) .none kVQ0 dcQ0 pmQ0 anQ0 cdQ0 ctQ0), slQ0⟩) (qj0 : PySem.W.codeIn K cdQ0 "UnknownNode.__init__" = true) (qk0 : PySem.W.keepIn K (.ref fQ0) = true) (ql0 : PySem.W.keepIn K (.ref CQ0) = true) (qm0 : PySem.W.subIn K (.ref CQ0) (.type "BaseException") = some true) (qn0 : PySem.W.typeIn K (.ref CQ0) = some (.type "type")) (qo0 : PySem.W.hasDictIn K CQ0 = true) (qp0 : PySem.W.isClsIn K CQ0 = true) (qq0 : PySem.W.subIn K (.ref CQ0) (.ref CQ0) = some true) (qs0 : PySem.W.nsIn K mainGlobals "KeyError" = some none) (qt0 : PySem.W.findCls K (.type "KeyError") (.type "type") "__init__" = some (.val (.builtin "KeyError.__init__")))
    (qa1 : PySem.W.nsIn K mainGlobals "UnknownWorker" = some (some (.ref CQ1))) (qb1 : K.lookup CQ1 = some (excClassObj nmQ1 qQ1 CQ1 NQ1 bsQ1 bmKE true snQ1 subQ1 abQ1 colQ1 ddQ1 maQ1 mbQ1 mcQ1 mdQ1 meQ1 "LookupError.__new__")) (qc1 : PySem.W.findIn K (.ref CQ1) "__setattr__" = some (some (.builtin "object.__setattr__"))) (qd1 : PySem.W.findIn K (.ref CQ1) "__getattribute__" = some (some (.builtin "BaseException.__getattribute__"))) (qe1 : PySem.W.findIn K (.ref CQ1) "__getattr__" = some none) (qf1 : PySem.W.findIn K (.ref CQ1) "worker" = some none) (qg1 : PySem.W.findIn K (.ref CQ1) "__init__" = some (some (.ref fQ1))) (qh1 : PySem.W.typeIn K (.ref fQ1) = some (.type "function")) (qi1 : K.lookup fQ1 = some ⟨ocQ1, odQ1, .func (PySem.W.fnOf "__init__" "UnknownWorker.__init__" (defArgs s_UnknownWorker_init) (defBody s_UnknownWorker_init) (defScope s_UnknownWorker_init) .none kVQ1 dcQ1 pmQ1 anQ1 cdQ1 ctQ1), slQ1⟩) (qj1 : PySem.W.codeIn K cdQ1 "UnknownWorker.__init__" = true) (qk1 : PySem.W.keepIn K (.ref fQ1) = true) (ql1 : PySem.W.keepIn K (.ref CQ1) = true) (qm1 : PySem.W.subIn K (.ref CQ1) (.type "BaseException") = some true) (qn1 : PySem.W.typeIn K (.ref CQ1) = some (.type "type")) (qo1 : PySem.W.hasDictIn K CQ1 = true) (qp1 : PySem.W.isClsIn K CQ1 = true) (qq1 : PySem.W.subIn K (.ref CQ1) (.ref CQ1) = some true) (qs1 : PySem.W.nsIn K mainGlobals "KeyError" = some none) (qt1 : PySem.W.findCls K (.type "KeyError") (.type "type") "__init__" = some (.val (.builtin "KeyError.__init__")))
    (zb0 : PySem.W.subIn K (.ref CQ0) (.ref CQ1) = some false)
    (zc0 : PySem.W.subIn K (.ref CQ1) (.ref CQ0) = some false) :
    ∃ (fd : FuncData) (c T : Addr), PySem.W.tabIn K "smallest_path" = some (c, T) ∧ K.lookup T = none ∧ (∀ (s : Shared) (u : Value), BindsTo s fd ⟨[u], []⟩ [("_law_script", u)]) ∧ ∀ base : Heap, K.In base → base.Ns mainGlobals mg → TabB base mg c T → FnG l.prog w K mg base CX0 10 fa fd ["_law_script"] (spLaw K T) := by
  have e := hfa.symm.trans (PySem.W.mg_of X G a43)
  cases e
  have n_len := PySem.W.mg_none_of X G z0
  have n_abs := PySem.W.mg_none_of X G z1
  have n_max := PySem.W.mg_none_of X G z2
  have n_min := PySem.W.mg_none_of X G z3
  have n_sorted := PySem.W.mg_none_of X G z4
  have n_isinstance := PySem.W.mg_none_of X G z5
  have n_int := PySem.W.mg_none_of X G z6
  have n_list := PySem.W.mg_none_of X G z7
  have n_tuple := PySem.W.mg_none_of X G z8
  have n_str := PySem.W.mg_none_of X G z9
  have n_range := PySem.W.mg_none_of X G z10
  have n_enumerate := PySem.W.mg_none_of X G z11
  have n_dict := PySem.W.mg_none_of X G z12
  have n_sum := PySem.W.mg_none_of X G z13
  have n_all := PySem.W.mg_none_of X G z14
  have n_any := PySem.W.mg_none_of X G z15
  have n_repr := PySem.W.mg_none_of X G z16
  have n_set := PySem.W.mg_none_of X G z17
  have n_zip := PySem.W.mg_none_of X G z18
  have n_reversed := PySem.W.mg_none_of X G z19
  have n_bool := PySem.W.mg_none_of X G z20
  have B : Bt mg := { len := n_len, abs := n_abs, max := n_max, min := n_min, sorted := n_sorted, isinstance := n_isinstance, int := n_int, list := n_list, tuple := n_tuple, str := n_str, range := n_range, enumerate := n_enumerate, dict := n_dict, sum := n_sum, all := n_all, any := n_any, repr := n_repr, set := n_set, zip := n_zip, reversed := n_reversed }
  have g_DOWN : ∃ u, mg "DOWN" = some u ∧ RelV (.int (-1)) u := ⟨_, PySem.W.mg_of X G w0, ⟨_, rfl⟩⟩
  have g_LETTERS : ∃ u, mg "LETTERS" = some u ∧ RelV (.str "abcdefghijklmnopqrstuvwxyz") u := ⟨_, PySem.W.mg_of X G w1, ⟨_, rfl⟩⟩
  have g_MAX_NAME : ∃ u, mg "MAX_NAME" = some u ∧ RelV (.int 8) u := ⟨_, PySem.W.mg_of X G w2, ⟨_, rfl⟩⟩
  have g_UP : ∃ u, mg "UP" = some u ∧ RelV (.int 1) u := ⟨_, PySem.W.mg_of X G w3, ⟨_, rfl⟩⟩
  have F0 := fun_mk (st := s_is_node) l0 c0 k0
  have b0 := F0.binds (ps := ["candidate"]) fun _ _ _ _ _ _ us hl => match us, hl with | [_], _ => rfl
  have F1 := fun_mk (st := s_has_node) l1 c1 k1
  have b1 := F1.binds (ps := ["graph", "candidate"]) fun _ _ _ _ _ _ us hl => match us, hl with | [_, _], _ => rfl
  have F2 := fun_mk (st := s_adjacency) l2 c2 k2
  have b2 := F2.binds (ps := ["graph"]) fun _ _ _ _ _ _ us hl => match us, hl with | [_], _ => rfl
  have F3 := fun_mk (st := s_slope) l3 c3 k3
  have b3 := F3.binds (ps := ["state", "node", "neighbor"]) fun _ _ _ _ _ _ us hl => match us, hl with | [_, _, _], _ => rfl
  have F4 := fun_mk (st := s_is_integer) l4 c4 k4
  have b4 := F4.binds (ps := ["candidate"]) fun _ _ _ _ _ _ us hl => match us, hl with | [_], _ => rfl
  have F5 := fun_mk (st := s_closer_to_zero) l5 c5 k5
  have b5 := F5.binds (ps := ["number"]) fun _ _ _ _ _ _ us hl => match us, hl with | [_], _ => rfl
  have F6 := fun_mk (st := s_check_distinct) l6 c6 k6
  have b6 := F6.binds (ps := ["nodes"]) fun _ _ _ _ _ _ us hl => match us, hl with | [_], _ => rfl
  have F7 := fun_mk (st := s__law_box) l7 c7 k7
  have b7 := F7.binds (ps := ["_law_script"]) fun _ _ _ _ _ _ us hl => match us, hl with | [_], _ => rfl
  have F8 := fun_mk (st := s__law_draw) l8 c8 k8
  have b8 := F8.binds (ps := ["_law_source", "_law_count"]) fun _ _ _ _ _ _ us hl => match us, hl with | [_, _], _ => rfl
  have F9 := fun_mk (st := s__law_neighbors) l9 c9 k9
  have b9 := F9.binds (ps := ["_law_graph", "_law_node"]) fun _ _ _ _ _ _ us hl => match us, hl with | [_, _], _ => rfl
  have F10 := fun_mk (st := s__law_unused_name) l10 c10 k10
  have b10 := F10.binds (ps := ["_law_graph"]) fun _ _ _ _ _ _ us hl => match us, hl with | [_], _ => rfl
  have F11 := fun_mk (st := s_sloped_paths) l11 c11 k11
  have b11 := F11.binds (ps := ["graph", "state", "node", "direction"]) fun _ _ _ _ _ _ us hl => match us, hl with | [_, _, _, _], _ => rfl
  have F12 := fun_mk (st := s_is_number_dict) l12 c12 k12
  have b12 := F12.binds (ps := ["graph", "candidate"]) fun _ _ _ _ _ _ us hl => match us, hl with | [_, _], _ => rfl
  have F13 := fun_mk (st := s_fits_edge) l13 c13 k13
  have b13 := F13.binds (ps := ["state", "lift", "one", "other"]) fun _ _ _ _ _ _ us hl => match us, hl with | [_, _, _, _], _ => rfl
  have F14 := fun_mk (st := s_progress_value) l14 c14 k14
  have b14 := F14.binds (ps := ["state", "adjacent", "node", "number"]) fun _ _ _ _ _ _ us hl => match us, hl with | [_, _, _, _], _ => rfl
  have F15 := fun_mk (st := s_after_moves) l15 c15 k15
  have b15 := F15.binds (ps := ["state", "lift", "moves"]) fun _ _ _ _ _ _ us hl => match us, hl with | [_, _, _], _ => rfl
  have F16 := fun_mk (st := s__law_stem) l16 c16 k16
  have b16 := F16.binds (ps := ["_law_source"]) fun _ _ _ _ _ _ us hl => match us, hl with | [_], _ => rfl
  have F17 := fun_mk (st := s__law_possible) l17 c17 k17
  have b17 := F17.binds (ps := ["_law_graph", "_law_state", "_law_pins", "_law_node"]) fun _ _ _ _ _ _ us hl => match us, hl with | [_, _, _, _], _ => rfl
  have F18 := fun_mk (st := s__law_expected_waits) l18 c18 k18
  have b18 := F18.binds (ps := ["_law_graph", "_law_current", "_law_remaining", "_law_node"]) fun _ _ _ _ _ _ us hl => match us, hl with | [_, _, _, _], _ => rfl
  have F19 := fun_mk (st := s_check_node) l19 c19 k19
  have b19 := F19.binds (ps := ["graph", "candidate"]) fun _ _ _ _ _ _ us hl => match us, hl with | [_, _], _ => rfl
  have F20 := fun_mk (st := s_smallest_path) l20 c20 k20
  have FC20 : FunC K "smallest_path" "smallest_path" s_smallest_path f20 _ C0 := ⟨⟨_, _, _, _, _, _, _, _, rfl, l20, c20⟩⟩
  have b20 := F20.binds (ps := ["paths"]) fun _ _ _ _ _ _ us hl => match us, hl with | [_], _ => rfl
  have F21 := fun_mk (st := s_is_lift) l21 c21 k21
  have b21 := F21.binds (ps := ["graph", "state", "candidate"]) fun _ _ _ _ _ _ us hl => match us, hl with | [_, _, _], _ => rfl
  have F22 := fun_mk (st := s_progress_moves_with) l22 c22 k22
  have b22 := F22.binds (ps := ["graph", "state", "adjacent", "lift", "pinned"]) fun _ _ _ _ _ _ us hl => match us, hl with | [_, _, _, _, _], _ => rfl
  have F23 := fun_mk (st := s__law_random_names) l23 c23 k23
  have b23 := F23.binds (ps := ["_law_source", "_law_count"]) fun _ _ _ _ _ _ us hl => match us, hl with | [_, _], _ => rfl
  have F24 := fun_mk (st := s__law_random_lift) l24 c24 k24
  have b24 := F24.binds (ps := ["_law_source", "_law_graph", "_law_state", "_law_pins", "_law_size"]) fun _ _ _ _ _ _ us hl => match us, hl with | [_, _, _, _, _], _ => rfl
  have F25 := fun_mk (st := s_Team_check_worker) l25 c25 k25
  have b25 := F25.binds (ps := ["self", "worker"]) fun _ _ _ _ _ _ us hl => match us, hl with | [_, _], _ => rfl
  have F26 := fun_mk (st := s_Team_perform_round) l26 c26 k26
  have b26 := F26.binds (ps := ["self", "pairs", "values"]) fun _ _ _ _ _ _ us hl => match us, hl with | [_, _, _], _ => rfl
  have F27 := fun_mk (st := s_neighbors) l27 c27 k27
  have b27 := F27.binds (ps := ["graph", "node"]) fun _ _ _ _ _ _ us hl => match us, hl with | [_, _], _ => rfl
  have F28 := fun_mk (st := s_cycle_at) l28 c28 k28
  have b28 := F28.binds (ps := ["graph", "state", "node"]) fun _ _ _ _ _ _ us hl => match us, hl with | [_, _, _], _ => rfl
  have sT29 : ∀ H, SqT K H T29 [] := fun H => .inr ⟨_, _, _, t29, rfl, rfl, (by show 0 ≤ sizeLine; decide), .nil⟩
  have FD29 : FunD K "progress_moves" "progress_moves" (defArgs s_progress_moves) (defBody s_progress_moves) (defScope s_progress_moves) [] [("pinned", .ref T29)] f29 _ := ⟨⟨_, _, _, _, _, _, _, _, _, _, rfl, l29, c29, .inl ⟨rfl, rfl⟩, .inr ⟨D29, rfl, fun q hq => by
    rw [List.mem_singleton] at hq
    subst hq
    exact ⟨_, d29, rfl⟩⟩⟩, k29⟩
  obtain ⟨ds29, vd29, bd29⟩ := FD29.binds0 (ps := ["graph", "state", "lift", "pinned"]) 3 (by simp) rfl fun D doc pm an cdv ct us ks hu hk => match us, ks, hu, hk with | [_, _, _], [_], _, _ => ⟨_, _, _, _, _, _, rfl, rfl, rfl⟩
  have F29 := fun_mk (st := s_progress_moves) l29 c29 k29
  have F30 := fun_mk (st := s__law_random_problem) l30 c30 k30
  have b30 := F30.binds (ps := ["_law_source", "_law_most"]) fun _ _ _ _ _ _ us hl => match us, hl with | [_, _], _ => rfl
  have F31 := fun_mk (st := s_Team_assign) l31 c31 k31
  have b31 := F31.binds (ps := ["self", "worker", "nodes"]) fun _ _ _ _ _ _ us hl => match us, hl with | [_, _, _], _ => rfl
  have F32 := fun_mk (st := s_cycle_nodes) l32 c32 k32
  have b32 := F32.binds (ps := ["graph", "state"]) fun _ _ _ _ _ _ us hl => match us, hl with | [_, _], _ => rfl
  have F33 := fun_mk (st := s_Team_value_for) l33 c33 k33
  have b33 := F33.binds (ps := ["self", "worker", "node"]) fun _ _ _ _ _ _ us hl => match us, hl with | [_, _, _], _ => rfl
  have F34 := fun_mk (st := s_Team_available) l34 c34 k34
  have b34 := F34.binds (ps := ["self", "worker"]) fun _ _ _ _ _ _ us hl => match us, hl with | [_, _], _ => rfl
  have F35 := fun_mk (st := s_Team_waits_for) l35 c35 k35
  have b35 := F35.binds (ps := ["self", "node"]) fun _ _ _ _ _ _ us hl => match us, hl with | [_, _], _ => rfl
  have F36 := fun_mk (st := s_find_anchors) l36 c36 k36
  have b36 := F36.binds (ps := ["graph", "state", "pinned"]) fun _ _ _ _ _ _ us hl => match us, hl with | [_, _, _], _ => rfl
  have F37 := fun_mk (st := s__law_call) l37 c37 k37
  have b37 := F37.binds (ps := ["_law_team", "_law_candidate", "_law_direction"]) fun _ _ _ _ _ _ us hl => match us, hl with | [_, _, _], _ => rfl
  have F38 := fun_mk (st := s__law_same_twice) l38 c38 k38
  have b38 := F38.binds (ps := ["_law_team", "_law_candidate", "_law_direction", "_law_expected"]) fun _ _ _ _ _ _ us hl => match us, hl with | [_, _, _, _], _ => rfl
  have F39 := fun_mk (st := s_Team_move_together) l39 c39 k39
  have b39 := F39.binds (ps := ["self", "pairs"]) fun _ _ _ _ _ _ us hl => match us, hl with | [_, _], _ => rfl
  have F40 := fun_mk (st := s_check_lift) l40 c40 k40
  have b40 := F40.binds (ps := ["graph", "state", "lift", "pinned"]) fun _ _ _ _ _ _ us hl => match us, hl with | [_, _, _, _], _ => rfl
  have F41 := fun_mk (st := s_Team_move) l41 c41 k41
  have b41 := F41.binds (ps := ["self", "worker", "node"]) fun _ _ _ _ _ _ us hl => match us, hl with | [_, _, _], _ => rfl
  have F42 := fun_mk (st := s_Team_init) l42 c42 k42
  have F43 := fun_mk (st := s_law) l43 c43 k43
  have b43 := F43.binds (ps := ["_law_script"]) fun _ _ _ _ _ _ us hl => match us, hl with | [_], _ => rfl
  have ownB0 := ownB_mk (x := "UnknownNode") (f := "node") (B := "KeyError") (newId := "LookupError.__new__") (initId := "KeyError.__init__") (bmB := bmKE) (PySem.W.mg_of X G qa0) (PySem.W.mg_none_of X G qs0) qb0 (by decide +kernel) qc0 qd0 qe0 qf0 qg0 qh0 ql0 qm0 qn0 qo0 qp0 qq0 qt0
  have FQ0 := fun_mk (st := s_UnknownNode_init) qi0 qj0 qk0
  have bQ0 := FQ0.binds (ps := ["self", "node"]) fun _ _ _ _ _ _ us hl => match us, hl with | [_, _], _ => rfl
  have ownB1 := ownB_mk (x := "UnknownWorker") (f := "worker") (B := "KeyError") (newId := "LookupError.__new__") (initId := "KeyError.__init__") (bmB := bmKE) (PySem.W.mg_of X G qa1) (PySem.W.mg_none_of X G qs1) qb1 (by decide +kernel) qc1 qd1 qe1 qf1 qg1 qh1 ql1 qm1 qn1 qo1 qp1 qq1 qt1
  have FQ1 := fun_mk (st := s_UnknownWorker_init) qi1 qj1 qk1
  have bQ1 := FQ1.binds (ps := ["self", "worker"]) fun _ _ _ _ _ _ us hl => match us, hl with | [_, _], _ => rfl
  have isW0 : IsW K mg CQ0 CQ1 := ⟨PySem.W.mg_of X G qa0, PySem.W.mg_of X G qa1, exm_subE qm0 qm0 qp0 qn0 qq0, ⟨_, exm_subE qm0 qm1 qp1 qn1 zb0⟩, exm_subE qm1 qm0 qp0 qn0 zc0, exm_subE qm1 qm1 qp1 qn1 qq1⟩
  refine ⟨PySem.W.fnOf "law" "law" (defArgs s_law) (defBody s_law) (defScope s_law) .none kV43 dc43 pm43 an43 cd43 ct43, C0, T0, tab_mk a20 l20 rfl tl0 tl1, ty1, fun s v => .of_eq rfl, fun base _ _ TB => ?_⟩
  have errB0 : ErrB l.prog w K mg base "UnknownNode" "node" "KeyError" "LookupError.__new__" "KeyError.__init__" bmKE CQ0 := ⟨bas_KE, ⟨_, _, ownB0, ok_initN FQ0 ownB0, bQ0⟩⟩
  have errB1 : ErrB l.prog w K mg base "UnknownWorker" "worker" "KeyError" "LookupError.__new__" "KeyError.__init__" bmKE CQ1 := ⟨bas_KE, ⟨_, _, ownB1, ok_initW FQ1 ownB1, bQ1⟩⟩
  have TC : TmC K CT := ⟨⟨tCTd, tCTe, tCTf, tCTg⟩, tCTh0, tCTh1, tCTh2, tCTh3, tCTh4, tCTh5, tCTh6, tCTh7⟩
  have c_is_node : Cal l.prog w K mg base (CX0) 1 "is_node" (spIsNdV K) := ⟨⟨_, _, _, ok_isNdV F0 B g_MAX_NAME g_LETTERS, PySem.W.mg_of X G a0, k0, b0⟩⟩
  have c_has_node : Cal l.prog w K mg base (CX0) 1 "has_node" (spHasV K) := ⟨⟨_, _, _, ok_hasV F1 B, PySem.W.mg_of X G a1, k1, b1⟩⟩
  have c_adjacency : Cal l.prog w K mg base (CX0) 1 "adjacency" (spAdjF) := ⟨⟨_, _, _, ok_adjF F2 B, PySem.W.mg_of X G a2, k2, b2⟩⟩
  have c_slope : Cal l.prog w K mg base (CX0) 1 "slope" (spSlope) := ⟨⟨_, _, _, ok_slope F3 B ⟨g_UP, g_DOWN⟩, PySem.W.mg_of X G a3, k3, b3⟩⟩
  have c_is_integer : Cal l.prog w K mg base (CX0) 1 "is_integer" (spIsInt K) := ⟨⟨_, _, _, ok_is_integer F4 B n_bool, PySem.W.mg_of X G a4, k4, b4⟩⟩
  have c_closer_to_zero : Cal l.prog w K mg base (CX0) 1 "closer_to_zero" (spCloser) := ⟨⟨_, _, _, ok_closer F5 B, PySem.W.mg_of X G a5, k5, b5⟩⟩
  have c_check_distinct : Cal l.prog w K mg base (CX0) 1 "check_distinct" (spChkD) := ⟨⟨_, _, _, ok_tmDist F6 B, PySem.W.mg_of X G a6, k6, b6⟩⟩
  have c__law_box : Cal l.prog w K mg base (CX0) 1 "_law_box" (spBox K) := ⟨⟨_, _, _, ok_box F7 B, PySem.W.mg_of X G a7, k7, b7⟩⟩
  have c__law_draw : Cal l.prog w K mg base (CX0) 1 "_law_draw" (spDraw) := ⟨⟨_, _, _, ok_draw F8 B, PySem.W.mg_of X G a8, k8, b8⟩⟩
  have c__law_neighbors : Cal l.prog w K mg base (CX0) 1 "_law_neighbors" (spNbrL) := ⟨⟨_, _, _, ok_nbrL F9 B, PySem.W.mg_of X G a9, k9, b9⟩⟩
  have c__law_unused_name : Cal l.prog w K mg base (CX0) 1 "_law_unused_name" (spUnusedE) := ⟨⟨_, _, _, ok_unusedE F10 B, PySem.W.mg_of X G a10, k10, b10⟩⟩
  have c_sloped_paths : Cal l.prog w K mg base (CX0) 2 "sloped_paths" (spSloped) := ⟨⟨_, _, _, ok_sloped F11 B ⟨⟨⟨_, _, _, ok_adj F2 B, PySem.W.mg_of X G a2, k2, b2⟩⟩, c_slope⟩, PySem.W.mg_of X G a11, k11, b11⟩⟩
  have c_is_number_dict : Cal l.prog w K mg base (CX0) 2 "is_number_dict" (spNum) := ⟨⟨_, _, _, ok_num F12 B ⟨c_is_integer, c_slope, g_UP⟩, PySem.W.mg_of X G a12, k12, b12⟩⟩
  have c_fits_edge : Cal l.prog w K mg base (CX0) 2 "fits_edge" (spFit) := ⟨⟨_, _, _, ok_fit F13 B ⟨c_is_integer, c_slope, g_UP⟩, PySem.W.mg_of X G a13, k13, b13⟩⟩
  have c_progress_value : Cal l.prog w K mg base (CX0) 2 "progress_value" (spPval) := ⟨⟨_, _, _, ok_pval F14 B ⟨c_slope, g_UP, g_DOWN⟩, PySem.W.mg_of X G a14, k14, b14⟩⟩
  have c_after_moves : Cal l.prog w K mg base (CX0) 2 "after_moves" (spAfter) := ⟨⟨_, _, _, ok_after F15 B ⟨c_closer_to_zero⟩, PySem.W.mg_of X G a15, k15, b15⟩⟩
  have c__law_stem : Cal l.prog w K mg base (CX0) 2 "_law_stem" (spStem) := ⟨⟨_, _, _, ok_stem F16 B ⟨c__law_draw⟩, PySem.W.mg_of X G a16, k16, b16⟩⟩
  have c__law_possible : Cal l.prog w K mg base (CX0) 2 "_law_possible" (spPoss K) := ⟨⟨_, _, _, ok_possB F17 B ⟨c__law_neighbors⟩, PySem.W.mg_of X G a17, k17, b17⟩⟩
  have c__law_expected_waits : Cal l.prog w K mg base (CX0) 2 "_law_expected_waits" (spWaitL K) := ⟨⟨_, _, _, ok_waitL F18 B ⟨c__law_neighbors⟩, PySem.W.mg_of X G a18, k18, b18⟩⟩
  have c_check_node : Cal l.prog w K mg base (L2.CX l.prog w) 3 "check_node" (_) := ⟨⟨_, _, _, ok_chkN F19 B ⟨c_has_node⟩ errB0, PySem.W.mg_of X G a19, k19, b19⟩⟩
  have c_smallest_path : Cal l.prog w K mg base (CX0) 3 "smallest_path" (spSmall [(T0, qLam)]) := ⟨⟨_, _, _, ok_small FC20 n_min n_len TB (List.mem_singleton.mpr rfl) (fun y hy _ => by rw [List.mem_singleton.mp hy]; rfl), PySem.W.mg_of X G a20, k20, b20⟩⟩
  have c_is_lift : Cal l.prog w K mg base (CX0) 3 "is_lift" (spIsLift) := ⟨⟨_, _, _, ok_is_lift F21 B ⟨c_is_number_dict, c_fits_edge⟩, PySem.W.mg_of X G a21, k21, b21⟩⟩
  have c_progress_moves_with : Cal l.prog w K mg base (CX0) 3 "progress_moves_with" (spPwith K) := ⟨⟨_, _, _, ok_pwith F22 B ⟨c_progress_value⟩, PySem.W.mg_of X G a22, k22, b22⟩⟩
  have c__law_random_names : Cal l.prog w K mg base (CX0) 3 "_law_random_names" (spNamesB) := ⟨⟨_, _, _, ok_namesB F23 B ⟨c__law_draw, c__law_stem⟩, PySem.W.mg_of X G a23, k23, b23⟩⟩
  have c__law_random_lift : Cal l.prog w K mg base (CX0) 3 "_law_random_lift" (spRandLift K) := ⟨⟨_, _, _, ok_rand_lift F24 B ⟨c__law_draw, c__law_possible⟩, PySem.W.mg_of X G a24, k24, b24⟩⟩
  have c_Team_check_worker : CalM l.prog w K mg base (L2.CX l.prog w) 3 CT "check_worker" (_) := ⟨⟨_, _, _, ok_tmCwX F25 B TC errB1, ⟨a25, u25, k25⟩, b25⟩⟩
  have c_Team_perform_round : CalM l.prog w K mg base (CX0) 3 CT "perform_round" (spTmPr CT) := ⟨⟨_, _, _, ok_tmPr F26 B TC ⟨c_after_moves⟩, ⟨a26, u26, k26⟩, b26⟩⟩
  have c_neighbors : Cal l.prog w K mg base (L2.CX l.prog w) 4 "neighbors" (_) := ⟨⟨_, _, _, ok_nbrs F27 B ⟨c_check_node, c_adjacency⟩, PySem.W.mg_of X G a27, k27, b27⟩⟩
  have c_cycle_at : Cal l.prog w K mg base (CX0) 4 "cycle_at" (spCycAt [(T0, qLam)]) := ⟨⟨_, _, _, ok_cycle_at F28 B ⟨⟨⟨_, _, _, ok_adj F2 B, PySem.W.mg_of X G a2, k2, b2⟩⟩, c_slope, c_sloped_paths, c_smallest_path, g_UP⟩, PySem.W.mg_of X G a28, k28, b28⟩⟩
  have c_progress_moves : CalK l.prog w K mg base (CX0) 4 "progress_moves" 3 ["pinned"] (spProg K) := ⟨⟨_, _, ["graph", "state", "lift", "pinned"], ok_prog F29 B ⟨⟨⟨_, _, _, ok_adj F2 B, PySem.W.mg_of X G a2, k2, b2⟩⟩, c_progress_moves_with⟩, PySem.W.mg_of X G a29, k29, fun us ws hu hw => match us, ws, hu, hw with | [_, _, _], [_], _, _ => rfl⟩⟩
  have e_progress_moves : CalD l.prog w K mg base (CX0) 4 "progress_moves" [.ref T29] (spProg K) := ⟨⟨_, _, _, ds29, ok_prog F29 B ⟨⟨⟨_, _, _, ok_adj F2 B, PySem.W.mg_of X G a2, k2, b2⟩⟩, c_progress_moves_with⟩, PySem.W.mg_of X G a29, k29, vd29, bd29⟩⟩
  have c__law_random_problem : Cal l.prog w K mg base (CX0) 4 "_law_random_problem" (spProblem) := ⟨⟨_, _, _, ok_problem F30 B ⟨c__law_draw, c__law_random_names⟩, PySem.W.mg_of X G a30, k30, b30⟩⟩
  have c_Team_assign : CalM l.prog w K mg base (L2.CX l.prog w) 4 CT "assign" (spTmAsX K CT CQ1 CQ0) := ⟨⟨_, _, _, ok_tmAsX F31 B TC ⟨c_check_node, c_is_node⟩ errB1, ⟨a31, u31, k31⟩, b31⟩⟩
  have c_cycle_nodes : Cal l.prog w K mg base (CX0) 5 "cycle_nodes" (spCycNodes [(T0, qLam)]) := ⟨⟨_, _, _, ok_cycle_nodes F32 B ⟨c_cycle_at⟩, PySem.W.mg_of X G a32, k32, b32⟩⟩
  have c_Team_value_for : CalM l.prog w K mg base (CX0) 5 CT "value_for" (spTmVf K CT) := ⟨⟨_, _, _, ok_tmVf F33 B TC ⟨⟨⟨_, _, _, ok_tmCw F25 B TC, ⟨a25, u25, k25⟩, b25⟩⟩, c_has_node, c_progress_moves⟩, ⟨a33, u33, k33⟩, b33⟩⟩
  have c_Team_available : CalM l.prog w K mg base (L2.CX l.prog w) 5 CT "available" (_) := ⟨⟨_, _, _, ok_tmAvX F34 B TC ⟨c_Team_check_worker, c_progress_moves⟩, ⟨a34, u34, k34⟩, b34⟩⟩
  have c_Team_waits_for : CalM l.prog w K mg base (L2.CX l.prog w) 5 CT "waits_for" (spTmWf K CT CQ0) := ⟨⟨_, _, _, ok_tmWf F35 B TC ⟨c_check_node, c_neighbors, c_slope, g_UP, g_DOWN⟩, ⟨a35, u35, k35⟩, b35⟩⟩
  have c_find_anchors : Cal l.prog w K mg base (CX0) 6 "find_anchors" (spFindAnch K [(T0, qLam)]) := ⟨⟨_, _, _, ok_find_anchors F36 B ⟨c_cycle_nodes⟩, PySem.W.mg_of X G a36, k36, b36⟩⟩
  have c__law_call : Cal l.prog w K mg base (CX0) 6 "_law_call" (spCallW K CT) := ⟨⟨_, _, _, ok_callW F37 B TC ⟨c_Team_waits_for, c_Team_available, c_Team_assign⟩ ownB1 ownB0 isW0, PySem.W.mg_of X G a37, k37, b37⟩⟩
  have c__law_same_twice : Cal l.prog w K mg base (CX0) 6 "_law_same_twice" (spTwice K CT) := ⟨⟨_, _, _, ok_twice F38 B TC ⟨c_Team_waits_for, c_Team_available⟩, PySem.W.mg_of X G a38, k38, b38⟩⟩
  have c_Team_move_together : CalM l.prog w K mg base (CX0) 6 CT "move_together" (spTmMt K CT) := ⟨⟨_, _, _, ok_tmMt F39 B TC ⟨c_Team_value_for, c_Team_perform_round, c_check_distinct⟩, ⟨a39, u39, k39⟩, b39⟩⟩
  have c_check_lift : Cal l.prog w K mg base (CX0) 7 "check_lift" (spCheckLift K [(T0, qLam)]) := ⟨⟨_, _, _, ok_check_lift F40 B ⟨c_is_lift, c_find_anchors⟩, PySem.W.mg_of X G a40, k40, b40⟩⟩
  have c_Team_move : CalM l.prog w K mg base (CX0) 7 CT "move" (spTmMv K CT) := ⟨⟨_, _, _, ok_tmMv F41 B TC ⟨c_Team_move_together⟩, ⟨a41, u41, k41⟩, b41⟩⟩
  have c_Team : CalC l.prog w K mg base (CX0) 8 "Team" CT 3 ["pinned"] gVt (spTmInit K [(T0, qLam)] CT) := ⟨⟨_, _, ["self", "graph", "state", "lift", "pinned"], fun us ws => us ++ ws, ok_tmInit F42 B TC ⟨c_check_lift⟩, ⟨tCTb, a42, u42, tCTc⟩, PySem.W.mg_of X G tCTa, ⟨fun s us ws _ h1 h2 => match us, ws, h1, h2 with | [_, _, _, _], [_], _, _ => .of_eq rfl, fun a b => a.append b⟩⟩⟩
  exact ok_law F43 B TC ⟨c__law_box, c__law_draw, c__law_random_problem, c__law_random_lift, c__law_call, c__law_same_twice, c__law_expected_waits, c__law_unused_name, c_Team, ⟨⟨_, _, _, ok_tmAs F31 B TC ⟨⟨⟨_, _, _, ok_chk0 F19 B ⟨c_has_node⟩, PySem.W.mg_of X G a19, k19, b19⟩⟩, ⟨⟨_, _, _, ok_isNd F0 B g_MAX_NAME g_LETTERS, PySem.W.mg_of X G a0, k0, b0⟩⟩⟩, ⟨a31, u31, k31⟩, b31⟩⟩, c_Team_move⟩
theorem walk {l : PySem.W.OpenLaw} {q : Program} {loose : List Str} {XP : (Str → Option Value) → Heap → Prop} {YP : World → Heap → Prop} {d dy : DefRec} {K : Params → PySem.W.Frag} (hn : l.most = some 63) (hdf : d.params.defaults = []) (hrec : (recsOf q).find? (fun e => e.name == ("smallest_path" : Str)) = some dy)
    (hY : ∀ (w : World) (h : Heap), YP w h → (K w.params).In h)
    (F : ∀ (w : World) (mg : Str → Option Value) (fa : Addr) (h : Heap), (K w.params).In h → h.Ns mainGlobals mg → mg d.name = some (.ref fa) →
      ∃ (fd : FuncData) (c T : Addr), PySem.W.tabIn (K w.params) "smallest_path" = some (c, T) ∧ (K w.params).lookup T = none ∧ (∀ (s : Shared) (u : Value), BindsTo s fd ⟨[u], []⟩ [("_law_script", u)]) ∧ ∀ base : Heap, (K w.params).In base → base.Ns mainGlobals mg → TabB base mg c T → FnG l.prog w (K w.params) mg base CX0 10 fa fd ["_law_script"] (spLaw (K w.params) T)) :
    PySem.W.WalkO q loose XP YP l.row.toRowW d [] (fun f vs => PySem.call f vs) :=
  walk_GY (n := 63) (k := 10) (x := "_law_script") (y := "smallest_path") (sp := spLaw) hn (by decide) hdf ⟨rfl, by decide, by decide⟩ hrec hY F fun K T H a ns hl hT hS => ⟨a, ns, rfl, hS, hl, (fun p hp => by
    rw [List.mem_singleton] at hp
    rw [hp]
    exact TabS.nil hT), fun _ => rfl⟩
end Law
open PySem PySem.W PyProof.Rows
set_option maxRecDepth 100000 in
set_option maxHeartbeats 0 in
theorem PySem.Challenge.cw_threeturned_k87_waiting_nodes_holds : PySem.Challenge.rw_threeturned_k87_waiting_nodes.Holds := by
  w_on; o_law; k_head; (case hw => w_witness2)
  k_fill
  refine Law.walk (l := PySem.Challenge.rw_threeturned_k87_waiting_nodes) rfl rfl rfl (fun w h Y => PySem.W.km_in_of Y) ?F
  case F =>
    intro w mg fa h KX G hmg
    refine' Law.all_mk KX G hmg ?tCTa ?tCTb ?tCTc ?tCTd ?tCTe ?tCTf ?tCTg ?tCTh0 ?tCTh1 ?tCTh2 ?tCTh3 ?tCTh4 ?tCTh5 ?tCTh6 ?tCTh7 ?a0 ?l0 ?c0 ?k0 ?a1 ?l1 ?c1 ?k1 ?a2 ?l2 ?c2 ?k2 ?a3 ?l3 ?c3 ?k3 ?a4 ?l4 ?c4 ?k4 ?a5 ?l5 ?c5 ?k5 ?a6 ?l6 ?c6 ?k6 ?a7 ?l7 ?c7 ?k7 ?a8 ?l8 ?c8 ?k8 ?a9 ?l9 ?c9 ?k9 ?a10 ?l10 ?c10 ?k10 ?a11 ?l11 ?c11 ?k11 ?a12 ?l12 ?c12 ?k12 ?a13 ?l13 ?c13 ?k13 ?a14 ?l14 ?c14 ?k14 ?a15 ?l15 ?c15 ?k15 ?a16 ?l16 ?c16 ?k16 ?a17 ?l17 ?c17 ?k17 ?a18 ?l18 ?c18 ?k18 ?a19 ?l19 ?c19 ?k19 ?a20 ?l20 ?c20 ?k20 ?tl0 ?tl1 ?ty1 ?a21 ?l21 ?c21 ?k21 ?a22 ?l22 ?c22 ?k22 ?a23 ?l23 ?c23 ?k23 ?a24 ?l24 ?c24 ?k24 ?a25 ?u25 ?l25 ?c25 ?k25 ?a26 ?u26 ?l26 ?c26 ?k26 ?a27 ?l27 ?c27 ?k27 ?a28 ?l28 ?c28 ?k28 ?a29 ?l29 ?c29 ?k29 ?d29 ?t29 ?a30 ?l30 ?c30 ?k30 ?a31 ?u31 ?l31 ?c31 ?k31 ?a32 ?l32 ?c32 ?k32 ?a33 ?u33 ?l33 ?c33 ?k33 ?a34 ?u34 ?l34 ?c34 ?k34 ?a35 ?u35 ?l35 ?c35 ?k35 ?a36 ?l36 ?c36 ?k36 ?a37 ?l37 ?c37 ?k37 ?a38 ?l38 ?c38 ?k38 ?a39 ?u39 ?l39 ?c39 ?k39 ?a40 ?l40 ?c40 ?k40 ?a41 ?u41 ?l41 ?c41 ?k41 ?a42 ?u42 ?l42 ?c42 ?k42 ?a43 ?l43 ?c43 ?k43 ?z0 ?z1 ?z2 ?z3 ?z4 ?z5 ?z6 ?z7 ?z8 ?z9 ?z10 ?z11 ?z12 ?z13 ?z14 ?z15 ?z16 ?z17 ?z18 ?z19 ?z20 ?w0 ?w1 ?w2 ?w3 ?qa0 ?qb0 ?qc0 ?qd0 ?qe0 ?qf0 ?qg0 ?qh0 ?qi0 ?qj0 ?qk0 ?ql0 ?qm0 ?qn0 ?qo0 ?qp0 ?qq0 ?qs0 ?qt0 ?qa1 ?qb1 ?qc1 ?qd1 ?qe1 ?qf1 ?qg1 ?qh1 ?qi1 ?qj1 ?qk1 ?ql1 ?qm1 ?qn1 ?qo1 ?qp1 ?qq1 ?qs1 ?qt1 ?zb0 ?zc0
    (case tCTa => k_is); (case tCTb => k_is); (case tCTc => k_is); (case tCTd => k_is)
    (case tCTe => k_is); (case tCTf => k_is); (case tCTg => k_is); (case tCTh0 => k_is)
    (case tCTh1 => k_is); (case tCTh2 => k_is); (case tCTh3 => k_is); (case tCTh4 => k_is)
    (case tCTh5 => k_is); (case tCTh6 => k_is); (case tCTh7 => k_is); (case a0 => k_is)
    (case l0 => k_is); (case c0 => k_is); (case k0 => k_is); (case a1 => k_is)
    (case l1 => k_is); (case c1 => k_is); (case k1 => k_is); (case a2 => k_is)
    (case l2 => k_is); (case c2 => k_is); (case k2 => k_is); (case a3 => k_is)
    (case l3 => k_is); (case c3 => k_is); (case k3 => k_is); (case a4 => k_is)
    (case l4 => k_is); (case c4 => k_is); (case k4 => k_is); (case a5 => k_is)
    (case l5 => k_is); (case c5 => k_is); (case k5 => k_is); (case a6 => k_is)
    (case l6 => k_is); (case c6 => k_is); (case k6 => k_is); (case a7 => k_is)
    (case l7 => k_is); (case c7 => k_is); (case k7 => k_is); (case a8 => k_is)
    (case l8 => k_is); (case c8 => k_is); (case k8 => k_is); (case a9 => k_is)
    (case l9 => k_is); (case c9 => k_is); (case k9 => k_is); (case a10 => k_is)
    (case l10 => k_is); (case c10 => k_is); (case k10 => k_is); (case a11 => k_is)
    (case l11 => k_is); (case c11 => k_is); (case k11 => k_is); (case a12 => k_is)
    (case l12 => k_is); (case c12 => k_is); (case k12 => k_is); (case a13 => k_is)
    (case l13 => k_is); (case c13 => k_is); (case k13 => k_is); (case a14 => k_is)
    (case l14 => k_is); (case c14 => k_is); (case k14 => k_is); (case a15 => k_is)
    (case l15 => k_is); (case c15 => k_is); (case k15 => k_is); (case a16 => k_is)
    (case l16 => k_is); (case c16 => k_is); (case k16 => k_is); (case a17 => k_is)
    (case l17 => k_is); (case c17 => k_is); (case k17 => k_is); (case a18 => k_is)
    (case l18 => k_is); (case c18 => k_is); (case k18 => k_is); (case a19 => k_is)
    (case l19 => k_is); (case c19 => k_is); (case k19 => k_is); (case a20 => k_is)
    (case l20 => k_is); (case c20 => k_is); (case k20 => k_is); (case tl0 => k_is)
    (case tl1 => exact rfl); (case ty1 => kernel_rfl); (case a21 => k_is); (case l21 => k_is)
    (case c21 => k_is); (case k21 => k_is); (case a22 => k_is); (case l22 => k_is)
    (case c22 => k_is); (case k22 => k_is); (case a23 => k_is); (case l23 => k_is)
    (case c23 => k_is); (case k23 => k_is); (case a24 => k_is); (case l24 => k_is)
    (case c24 => k_is); (case k24 => k_is); (case a25 => k_is); (case u25 => k_is)
    (case l25 => k_is); (case c25 => k_is); (case k25 => k_is); (case a26 => k_is)
    (case u26 => k_is); (case l26 => k_is); (case c26 => k_is); (case k26 => k_is)
    (case a27 => k_is); (case l27 => k_is); (case c27 => k_is); (case k27 => k_is)
    (case a28 => k_is); (case l28 => k_is); (case c28 => k_is); (case k28 => k_is)
    (case a29 => k_is); (case l29 => k_is); (case c29 => k_is); (case k29 => k_is)
    (case d29 => k_is); (case t29 => k_is); (case a30 => k_is); (case l30 => k_is)
    (case c30 => k_is); (case k30 => k_is); (case a31 => k_is); (case u31 => k_is)
    (case l31 => k_is); (case c31 => k_is); (case k31 => k_is); (case a32 => k_is)
    (case l32 => k_is); (case c32 => k_is); (case k32 => k_is); (case a33 => k_is)
    (case u33 => k_is); (case l33 => k_is); (case c33 => k_is); (case k33 => k_is)
    (case a34 => k_is); (case u34 => k_is); (case l34 => k_is); (case c34 => k_is)
    (case k34 => k_is); (case a35 => k_is); (case u35 => k_is); (case l35 => k_is)
    (case c35 => k_is); (case k35 => k_is); (case a36 => k_is); (case l36 => k_is)
    (case c36 => k_is); (case k36 => k_is); (case a37 => k_is); (case l37 => k_is)
    (case c37 => k_is); (case k37 => k_is); (case a38 => k_is); (case l38 => k_is)
    (case c38 => k_is); (case k38 => k_is); (case a39 => k_is); (case u39 => k_is)
    (case l39 => k_is); (case c39 => k_is); (case k39 => k_is); (case a40 => k_is)
    (case l40 => k_is); (case c40 => k_is); (case k40 => k_is); (case a41 => k_is)
    (case u41 => k_is); (case l41 => k_is); (case c41 => k_is); (case k41 => k_is)
    (case a42 => k_is); (case u42 => k_is); (case l42 => k_is); (case c42 => k_is)
    (case k42 => k_is); (case a43 => k_is); (case l43 => k_is); (case c43 => k_is)
    (case k43 => k_is); (case z0 => k_is); (case z1 => k_is); (case z2 => k_is)
    (case z3 => k_is); (case z4 => k_is); (case z5 => k_is); (case z6 => k_is)
    (case z7 => k_is); (case z8 => k_is); (case z9 => k_is); (case z10 => k_is)
    (case z11 => k_is); (case z12 => k_is); (case z13 => k_is); (case z14 => k_is)
    (case z15 => k_is); (case z16 => k_is); (case z17 => k_is); (case z18 => k_is)
    (case z19 => k_is); (case z20 => k_is); (case w0 => k_is); (case w1 => k_is)
    (case w2 => k_is); (case w3 => k_is); (case qa0 => k_is); (case qb0 => k_is)
    (case qc0 => k_is); (case qd0 => k_is); (case qe0 => k_is); (case qf0 => k_is)
    (case qg0 => k_is); (case qh0 => k_is); (case qi0 => k_is); (case qj0 => k_is)
    (case qk0 => k_is); (case ql0 => k_is); (case qm0 => k_is); (case qn0 => k_is)
    (case qo0 => k_is); (case qp0 => k_is); (case qq0 => k_is); (case qs0 => k_is)
    (case qt0 => k_is); (case qa1 => k_is); (case qb1 => k_is); (case qc1 => k_is)
    (case qd1 => k_is); (case qe1 => k_is); (case qf1 => k_is); (case qg1 => k_is)
    (case qh1 => k_is); (case qi1 => k_is); (case qj1 => k_is); (case qk1 => k_is)
    (case ql1 => k_is); (case qm1 => k_is); (case qn1 => k_is); (case qo1 => k_is)
    (case qp1 => k_is); (case qq1 => k_is); (case qs1 => k_is); (case qt1 => k_is)
    (case zb0 => k_is); (case zc0 => k_is)

