import PyProof.Rows.All
import Wide.All
import OpenK.AllK
import Wide.FinOn
import PyProof.EqAt
import PyProof.EqKinds
import PyProof.TupleCall
import HandS.ForMost
import HandS.Evl
import HandS.IsInst
import HandS.Zip
import KE.GoesEnum
import HandS.Strs
import HandS.Steps
import HandS.Walk
import KE.GoesZip
import KE.GoesMore
import KE.GoesComp2
import KE.KRevSl
import PyProof.SumWalkG
import PyProof.MinMaxWalk
import PyProof.WalksMore
import HandS.Style
import HandS.Comp
import HandS.Zip0
import HandS.SetFor
import HandS.ListEq
import KE.KDictZip
import KE.KItemsList
import PyProof.Rows.SetFrom
import PyProof.WalkInts
import PyProof.SeqI3
import HandS.ExcInit
import HandS.ExcField
import HandS.WordsExc
import HandS.ExcCtx
import HandS.ExcInitHot
import HandS.HotCalls
import PySem.Challenge.RW_bestunmoved_k45_whole_rooms_as_entries
set_option Elab.async false
set_option linter.all false
section
set_option Elab.async false
set_option linter.all false
set_option maxRecDepth 100000
set_option maxHeartbeats 4000000
namespace K45
open PySem PySem.Spec PyProof.Rows L2
/-! ### the text and what stands -/
def topS (i : Nat) : Stmt := PySem.Challenge.pw_bestunmoved_k45_whole_rooms_as_entries.main.body.getD i (.Pass ⟨0, 0, 0, 0⟩)

structure Std (K : PySem.W.Frag) (mg : Str → Option Value) (x : Str) (st : Stmt) (ps : List Str) : Prop where
  ex : ∃ f fd, Fun K x x st f fd ∧ mg x = some (.ref f) ∧ Binds K fd ps []

structure Cal (P : Program) (w : World) (K : PySem.W.Frag) (mg : Str → Option Value) (base : Heap) (k : Nat) (x : Str) (ps : List Str) (sp : Sp) : Prop where
  ex : ∃ f fd, FnOk P w K mg base CX0 k f fd ps sp ∧ mg x = some (.ref f) ∧ Binds K fd ps [] ∧ PySem.W.keepIn K (.ref f) = true

section
variable {P : Program} {w : World} {K : PySem.W.Frag} {mg : Str → Option Value} {base : Heap}
theorem Std.cal {x : Str} {st : Stmt} {N ps : List Str} {k : Nat} {sp : Sp} (S : Std K mg x st ps) (sc : FnScope N ps (defScope st)) (len : ∀ vs H Q E, sp vs H Q E → vs.length = ps.length)
    (body : ∀ (f : Addr) (cdv : Value) (A : Around) (outer : List Env) (s : Shared) (H : Hp) (vs : List V) (Q : VK) (E : XK), Room k (A.deeper (envOfC x (defScope st) s.heap.objs.size f cdv)) → sp vs H Q E →
      ∃ t, PSs (cxOf CX0 P w K mg base N x (defScope st) f cdv A outer s H E).nox (defBody st) t ∧ t { nx := fun _ H' => Q .non H', rt := Q } (start N vs) H) : Cal P w K mg base (k + 1) x ps sp := by
  obtain ⟨f, fd, F, m, b⟩ := S.ex
  exact ⟨f, fd, F.ok sc len (fun cdv A outer s H vs Q E => body f cdv A outer s H vs Q E), m, b, F.kp⟩
theorem Cal.mono {x : Str} {ps : List Str} {sp : Sp} {j k : Nat} (C : Cal P w K mg base j x ps sp) (h : j ≤ k) : Cal P w K mg base k x ps sp := by
  obtain ⟨f, fd, F, m, b, kp⟩ := C.ex
  exact ⟨f, fd, F.mono h, m, b, kp⟩
end
section
variable {X : Cx}
theorem pe_cal {j k : Nat} {x : Str} {ps : List Str} {sp : Sp} {e : Expr} {es : List Expr} {t : TA} {p pos : Pos} (C : Cal X.prog X.w X.K X.mg X.base j x ps sp) (hr : Room k X.A) (hj : j ≤ k) (hg : Gl X x)
    (ha : PA X (e :: es) t) (hdb : (x == ("__debug__" : Str)) = false := by decide) (he : starEach (e :: es) X.env = (false, eval e X.env) :: starEach es X.env := by rfl) (hpl : (backTo pos (starEach es X.env)).any (·.1) = false := by rfl) :
    PE X (.Call (.Name x p) (e :: es) [] pos) (tCall sp [] E0 t) := by
  obtain ⟨f, fd, F, m, b, kp⟩ := C.ex
  exact pe_call F (hr.mono hj) hg m kp b .nil pass0 ha hdb he hpl
end
/-! ### names for the readings -/
def rAdd : R2 := rI0 fun i j => .int (i + j)
def rSub : R2 := rI0 fun i j => .int (i - j)
def rMul : R2 := rI CMul fun i j => .int (i * j)
def rFdv : R2 := rI CDiv fun i j => .int (i / j)
def rMod : R2 := rI (fun _ j => 0 < j) fun i j => .int (i % j)
def rLt : R2 := rI0 fun i j => .bl (decide (i < j))
def rLe : R2 := rI0 fun i j => .bl (decide (i ≤ j))
def rGt : R2 := rI0 fun i j => .bl (decide (j < i))
def rGe : R2 := rI0 fun i j => .bl (decide (j ≤ i))
def kIsN : R2 := fun x y H Q => y = .non ∧ Q (.bl (decide (x = .non))) H
def kNotN : R2 := fun x y H Q => y = .non ∧ Q (.bl (!decide (x = .non))) H
def cLen (K : PySem.W.Frag) : List V → Hp → VK → Prop := fun xs H Q => ∃ p ys, xs = [.ref p] ∧ (SqL K H p ys ∨ SqT K H p ys) ∧ Q (.int ys.length) H
def cAbs : List V → Hp → VK → Prop := fun xs H Q => ∃ i, xs = [.int i] ∧ Q (.int (if i < 0 then -i else i)) H
def cMax2 : List V → Hp → VK → Prop := fun xs H Q => ∃ i j, xs = [.int i, .int j] ∧ Q (.int (if j > i then j else i)) H
def cMin2 : List V → Hp → VK → Prop := fun xs H Q => ∃ i j, xs = [.int i, .int j] ∧ Q (.int (if j < i then j else i)) H
def cInt : List V → Hp → VK → Prop := fun xs H Q => (∃ i, xs = [.int i] ∧ Q (.int i) H) ∨ ∃ k, xs = [.bl k] ∧ Q (.int (if k then 1 else 0)) H
def cList (K : PySem.W.Frag) : List V → Hp → VK → Prop := fun xs H Q => ∃ p ys, xs = [.ref p] ∧ (SqL K H p ys ∨ SqT K H p ys) ∧ ∀ l, H l = none → Q (.ref l) (upd H l (.lst ys))
def cTup (K : PySem.W.Frag) : List V → Hp → VK → Prop := fun xs H Q => ∃ p ys, xs = [.ref p] ∧ ((SqL K H p ys ∧ ∀ l, H l = none → Q (.ref l) (upd H l (.tup ys))) ∨ (SqT K H p ys ∧ Q (.ref p) H))
section
variable {X : Cx}
theorem k_add : OpR X (binaryOp .Add) rAdd := op_add
theorem k_sub : OpR X (binaryOp .Sub) rSub := op_sub
theorem k_mul : OpR X (binaryOp .Mult) rMul := op_mul
theorem k_fdv : OpR X (binaryOp .FloorDiv) rFdv := op_fdiv
theorem k_mod : OpR X (binaryOp .Mod) rMod := op_mod
theorem k_lt : OpR X (compareOp .Lt) rLt := op_lt
theorem k_le : OpR X (compareOp .LtE) rLe := op_le
theorem k_gt : OpR X (compareOp .Gt) rGt := op_gt
theorem k_ge : OpR X (compareOp .GtE) rGe := op_ge
theorem k_isN : OpR X (compareOp .Is) kIsN := op_isN
theorem k_notN : OpR X (compareOp .IsNot) kNotN := op_notN
theorem k_len : CallR X (.builtin "len") (cLen X.K) := call_len_seq
theorem k_abs : CallR X (.builtin "abs") cAbs := call_abs
theorem k_max2 (hc : X.calm = true) : CallR X (.builtin "max") cMax2 := call_max2 hc
theorem k_min2 (hc : X.calm = true) : CallR X (.builtin "min") cMin2 := call_min2 hc
theorem k_int : CallR X (.type "int") cInt := call_int1
theorem k_list : CallR X (.type "list") (cList X.K) := call_list_of
theorem k_tuple : CallR X (.type "tuple") (cTup X.K) := call_tuple_of
end
/-! ### isinstance -/
/-- what isinstance says of such a value and one of four types -/
inductive IsV (K : PySem.W.Frag) (H : Hp) : V → String → Bool → Prop where
  | non (T : String) (h : T = "int" ∨ T = "bool" ∨ T = "tuple" ∨ T = "str") : IsV K H .non T false
  | intI (i : Int) : IsV K H (.int i) "int" true
  | intB (i : Int) : IsV K H (.int i) "bool" false
  | intT (i : Int) : IsV K H (.int i) "tuple" false
  | intS (i : Int) : IsV K H (.int i) "str" false
  | blI (b : Bool) : IsV K H (.bl b) "int" true
  | blB (b : Bool) : IsV K H (.bl b) "bool" true
  | blT (b : Bool) : IsV K H (.bl b) "tuple" false
  | blS (b : Bool) : IsV K H (.bl b) "str" false
  | tup (a : Addr) (xs : List V) (h : SqT K H a xs) : IsV K H (.ref a) "tuple" true
def cIsi (K : PySem.W.Frag) : List V → Hp → VK → Prop := fun xs H Q => ∃ (x : V) (T : String) (b : Bool), xs = [x, .ty T] ∧ IsV K H x T b ∧ Q (.bl b) H
theorem isi_of {K : PySem.W.Frag} {H : Hp} {x : V} {T : String} {b : Bool} (h : IsV K H x T b) : ∃ t, TyX K H x t ∧ PySem.W.kitOne K t (.type T) = some b := by
  cases h with
  | non T h =>
    refine ⟨_, .base .non, ?_⟩
    rcases h with rfl | rfl | rfl | rfl <;> exact kit_ty (by decide +kernel)
  | intI i => exact ⟨_, .base (.int i), kit_ty (by decide +kernel)⟩
  | intB i => exact ⟨_, .base (.int i), kit_ty (by decide +kernel)⟩
  | intT i => exact ⟨_, .base (.int i), kit_ty (by decide +kernel)⟩
  | intS i => exact ⟨_, .base (.int i), kit_ty (by decide +kernel)⟩
  | blI i => exact ⟨_, .base (.bl i), kit_ty (by decide +kernel)⟩
  | blB i => exact ⟨_, .base (.bl i), kit_ty (by decide +kernel)⟩
  | blT i => exact ⟨_, .base (.bl i), kit_ty (by decide +kernel)⟩
  | blS i => exact ⟨_, .base (.bl i), kit_ty (by decide +kernel)⟩
  | tup a xs h =>
    rcases h with (h | ⟨o, h⟩) | ⟨o, its, n, hk, hc, _⟩
    · exact ⟨_, .base (.tup h), kit_ty (by decide +kernel)⟩
    · exact ⟨_, .fTuple h, kit_ty (by decide +kernel)⟩
    · exact ⟨_, .kTuple hk hc, kit_ty (by decide +kernel)⟩
theorem k_isi {X : Cx} : CallR X (.builtin "isinstance") (cIsi X.K) := by
  intro pins s σ H xs us Q I r h
  obtain ⟨x, T, b, rfl, v, q⟩ := h
  obtain ⟨t, ty, e⟩ := isi_of v
  exact call_isi pins s σ H _ us Q I r ⟨x, .ty T, t, .type T, b, rfl, .ty T, ty, e, q⟩
end K45
set_option Elab.async false
set_option linter.all false
set_option maxRecDepth 100000
set_option maxHeartbeats 4000000
namespace K45
open PySem PySem.Spec PyProof.Rows L2
structure Bif (mg : Str → Option Value) : Prop where
  abs_ : mg "abs" = none
  all_ : mg "all" = none
  bool_ : mg "bool" = none
  enumerate_ : mg "enumerate" = none
  int_ : mg "int" = none
  isinstance_ : mg "isinstance" = none
  len_ : mg "len" = none
  list_ : mg "list" = none
  max_ : mg "max" = none
  min_ : mg "min" = none
  range_ : mg "range" = none
  set_ : mg "set" = none
  str_ : mg "str" = none
  sum_ : mg "sum" = none
  tuple_ : mg "tuple" = none
  zip_ : mg "zip" = none
structure Txt (K : PySem.W.Frag) (mg : Str → Option Value) : Prop where
  B : Bif mg
  is_integer : Std K mg "is_integer" (topS 6) ["thing"]
  is_number : Std K mg "is_number" (topS 7) ["thing"]
  is_table_door : Std K mg "is_table_door" (topS 9) ["size", "thing"]
  need_table_waits : Std K mg "need_table_waits" (topS 10) ["size", "waits"]
  need_table_grain : Std K mg "need_table_grain" (topS 11) ["grain"]
  need_table_door : Std K mg "need_table_door" (topS 12) ["size", "door"]
  need_table_pair : Std K mg "need_table_pair" (topS 13) ["size", "door", "other"]
  step_gains : Std K mg "step_gains" (topS 14) ["table", "waits"]
  coarse_gains : Std K mg "coarse_gains" (topS 15) ["table", "grain", "waits"]
  greatest_sums : Std K mg "greatest_sums" (topS 16) ["gains"]
  ring_behind : Std K mg "ring_behind" (topS 17) ["before", "door"]
  sums_to : Std K mg "sums_to" (topS 18) ["gains", "goal"]
  gains_if_kept : Std K mg "gains_if_kept" (topS 19) ["table", "waits"]
  room_by : Std K mg "room_by" (topS 21) ["waits", "door", "reached"]
  room_of : Std K mg "room_of" (topS 22) ["table", "waits", "door", "other"]
  room_row : Std K mg "room_row" (topS 23) ["gains", "waits", "door"]
  room_table : Std K mg "room_table" (topS 24) ["table", "waits"]
  tight_ring : Std K mg "tight_ring" (topS 25) ["table", "waits", "door"]
  ring_from : Std K mg "ring_from" (topS 26) ["door", "first", "following"]
  are_door_numbers : Std K mg "are_door_numbers" (topS 28) ["size", "thing"]
  need_door_rates : Std K mg "need_door_rates" (topS 29) ["table", "rates"]
  net_forward : Std K mg "net_forward" (topS 30) ["entries", "rows", "columns", "came"]
  net_backward : Std K mg "net_backward" (topS 31) ["entries", "flows", "rows", "columns", "came"]
  net_walks : Std K mg "net_walks" (topS 32) ["entries", "flows", "rows", "columns"]
  net_push : Std K mg "net_push" (topS 33) ["entries", "flows", "wanted", "begin", "left"]
  net_deal : Std K mg "net_deal" (topS 34) ["entries", "rates"]
  net_worth : Std K mg "net_worth" (topS 35) ["entries", "flows"]
  net_heights : Std K mg "net_heights" (topS 36) ["entries", "flows"]
  deal_paper : Std K mg "deal_paper" (topS 38) ["table", "rates"]
  cheapest_waits : Std K mg "cheapest_waits" (topS 39) ["table", "rates"]
  bars_at : Std K mg "bars_at" (topS 41) ["table", "grain", "waits"]
  is_kept_at : Std K mg "is_kept_at" (topS 42) ["table", "grain", "waits"]
  least_barred : Std K mg "least_barred" (topS 43) ["table", "waits"]
  dearest_dealing : Std K mg "dearest_dealing" (topS 45) ["table", "rates"]
  least_cost : Std K mg "least_cost" (topS 46) ["table", "rates"]
  barring_doors : Std K mg "barring_doors" (topS 48) ["table", "waits"]
  is_kept : Std K mg "is_kept" (topS 49) ["table", "waits"]
  needed_wait : Std K mg "needed_wait" (topS 51) ["table", "waits", "door"]
  others_barred : Std K mg "others_barred" (topS 52) ["table", "waits", "door"]
  least_wait : Std K mg "least_wait" (topS 53) ["table", "waits", "door"]
  is_bare : Std K mg "is_bare" (topS 54) ["table", "waits"]
  _law_draws : Std K mg "_law_draws" (topS 56) ["_law_script"]
  _law_take : Std K mg "_law_take" (topS 57) ["_law_d", "_law_b"]
  _law_same : Std K mg "_law_same" (topS 58) ["_law_thing", "_law_due"]
  _law_ints : Std K mg "_law_ints" (topS 59) ["_law_thing", "_law_b"]
  _law_table : Std K mg "_law_table" (topS 60) ["_law_d", "_law_b", "_law_unit"]
  _law_walks : Std K mg "_law_walks" (topS 61) ["_law_g", "_law_t", "_law_without"]
  _law_rooms : Std K mg "_law_rooms" (topS 62) ["_law_g", "_law_t"]
  _law_kept : Std K mg "_law_kept" (topS 63) ["_law_g", "_law_t"]
  _law_lower : Std K mg "_law_lower" (topS 64) ["_law_g", "_law_t", "_law_x"]
  _law_waits : Std K mg "_law_waits" (topS 65) ["_law_d", "_law_g"]
  _law_put : Std K mg "_law_put" (topS 66) ["_law_g", "_law_x", "_law_y", "_law_entry"]
  _law_ring : Std K mg "_law_ring" (topS 67) ["_law_g", "_law_i"]
  _law_loose : Std K mg "_law_loose" (topS 68) ["_law_row", "_law_rests"]
  _law_tight : Std K mg "_law_tight" (topS 69) ["_law_g", "_law_t", "_law_rooms_here", "_law_door"]
  _law_bars : Std K mg "_law_bars" (topS 70) ["_law_g", "_law_t", "_law_i", "_law_x", "_law_y"]
  _law_rest : Std K mg "_law_rest" (topS 71) ["_law_g", "_law_t", "_law_x", "_law_y", "_law_z", "_law_room"]
  _law_over : Std K mg "_law_over" (topS 72) ["_law_g", "_law_t", "_law_x", "_law_y", "_law_z", "_law_room", "_law_steps"]
  _law_pair : Std K mg "_law_pair" (topS 73) ["_law_g", "_law_t", "_law_rooms_here", "_law_x", "_law_y", "_law_z", "_law_low"]
  _law_worth : Std K mg "_law_worth" (topS 74) ["_law_g", "_law_r", "_law_dealing"]
  _law_cost : Std K mg "_law_cost" (topS 75) ["_law_g", "_law_r", "_law_t"]
  _law_costs : Std K mg "_law_costs" (topS 76) ["_law_g", "_law_r", "_law_x", "_law_y"]
  _law_all : Std K mg "_law_all" (topS 77) ["_law_g", "_law_t", "_law_first"]
  _law_is_bare : Std K mg "_law_is_bare" (topS 78) ["_law_g", "_law_t", "_law_rooms_here"]
  _law_bared : Std K mg "_law_bared" (topS 79) ["_law_g", "_law_t", "_law_first"]
  law : Std K mg "law" (topS 80) ["_law_script"]
end K45
set_option linter.all false
namespace K45
/-! ### functions changed at a place; sums -/
def up {α : Type} (f : Nat → α) (j : Nat) (v : α) : Nat → α := fun i => if i = j then v else f i
theorem up_same {α : Type} {f : Nat → α} {j : Nat} {v : α} : up f j v j = v := if_pos rfl
theorem up_ne {α : Type} {f : Nat → α} {j i : Nat} {v : α} (h : i ≠ j) : up f j v i = f i := if_neg h
def sumN : Nat → (Nat → Int) → Int
  | 0, _ => 0
  | n + 1, f => sumN n f + f n
theorem sumN_congr {n : Nat} {f g : Nat → Int} (h : ∀ i, i < n → f i = g i) : sumN n f = sumN n g := by
  induction n with
  | zero => rfl
  | succ n ih =>
    show sumN n f + f n = sumN n g + g n
    rw [ih fun i hi => h i (by omega), h n (by omega)]
theorem sumN_le {n : Nat} {f g : Nat → Int} (h : ∀ i, i < n → f i ≤ g i) : sumN n f ≤ sumN n g := by
  induction n with
  | zero => exact Int.le_refl _
  | succ n ih =>
    show sumN n f + f n ≤ sumN n g + g n
    have := ih fun i hi => h i (by omega)
    have := h n (by omega)
    omega
theorem sumN_lt {n : Nat} {f g : Nat → Int} (h : ∀ i, i < n → f i < g i) (hn : 0 < n) : sumN n f < sumN n g := by
  induction n with
  | zero => omega
  | succ n ih =>
    show sumN n f + f n < sumN n g + g n
    have h2 := h n (by omega)
    have h1 : sumN n f ≤ sumN n g := sumN_le fun i hi => Int.le_of_lt (h i (by omega))
    omega
theorem sumN_add {n : Nat} {f g : Nat → Int} : sumN n (fun i => f i + g i) = sumN n f + sumN n g := by
  induction n with
  | zero => rfl
  | succ n ih =>
    show sumN n (fun i => f i + g i) + (f n + g n) = sumN n f + f n + (sumN n g + g n)
    rw [ih]; omega
theorem sumN_sub {n : Nat} {f g : Nat → Int} : sumN n (fun i => f i - g i) = sumN n f - sumN n g := by
  induction n with
  | zero => rfl
  | succ n ih =>
    show sumN n (fun i => f i - g i) + (f n - g n) = sumN n f + f n - (sumN n g + g n)
    rw [ih]; omega
theorem sumN_mul {n : Nat} {c : Int} {f : Nat → Int} : sumN n (fun i => c * f i) = c * sumN n f := by
  induction n with
  | zero => show 0 = c * 0; omega
  | succ n ih =>
    show sumN n (fun i => c * f i) + c * f n = c * (sumN n f + f n)
    rw [ih, Int.mul_add]
theorem sumN_mulr {n : Nat} {c : Int} {f : Nat → Int} : sumN n (fun i => f i * c) = sumN n f * c := by
  rw [Int.mul_comm, ← sumN_mul]
  exact sumN_congr fun i _ => Int.mul_comm _ _
theorem sumN_const {n : Nat} {c : Int} : sumN n (fun _ => c) = n * c := by
  induction n with
  | zero => show 0 = ((0 : Nat) : Int) * c; simp
  | succ n ih =>
    show sumN n (fun _ => c) + c = ((n + 1 : Nat) : Int) * c
    rw [ih]
    have : ((n + 1 : Nat) : Int) = (n : Int) + 1 := by omega
    rw [this, Int.add_mul, Int.one_mul]
theorem sumN_zero {n : Nat} {f : Nat → Int} (h : ∀ i, i < n → f i = 0) : sumN n f = 0 := by
  rw [sumN_congr h, sumN_const, Int.mul_zero]
theorem sumN_nonneg {n : Nat} {f : Nat → Int} (h : ∀ i, i < n → 0 ≤ f i) : 0 ≤ sumN n f := by
  have := sumN_le (f := fun _ => 0) h
  rw [sumN_const, Int.mul_zero] at this
  exact this
/-- one term out of the sum -/
theorem sumN_up {n j : Nat} {f : Nat → Int} {v : Int} (hj : j < n) : sumN n (up f j v) = sumN n f - f j + v := by
  induction n with
  | zero => omega
  | succ n ih =>
    show sumN n (up f j v) + up f j v n = sumN n f + f n - f j + v
    by_cases h : j = n
    · subst h
      rw [up_same, sumN_congr (g := f) fun i hi => up_ne (by omega)]
      omega
    · rw [ih (by omega), up_ne (Ne.symm h)]
      omega
theorem sumN_shiftl {n : Nat} {f : Nat → Int} : sumN (n + 1) f = f 0 + sumN n (fun i => f (i + 1)) := by
  induction n with
  | zero => show 0 + f 0 = f 0 + 0; omega
  | succ n ih =>
    show sumN (n + 1) f + f (n + 1) = f 0 + (sumN n (fun i => f (i + 1)) + f (n + 1))
    rw [ih]; omega
theorem sumN_rev {n : Nat} {f : Nat → Int} : sumN n (fun i => f (n - 1 - i)) = sumN n f := by
  induction n with
  | zero => rfl
  | succ n ih =>
    rw [sumN_shiftl]
    show f (n + 1 - 1 - 0) + sumN n (fun i => f (n + 1 - 1 - (i + 1))) = sumN n f + f n
    rw [← ih]
    have e : sumN n (fun i => f (n + 1 - 1 - (i + 1))) = sumN n (fun i => f (n - 1 - i)) := sumN_congr fun i hi => by
      show f (n + 1 - 1 - (i + 1)) = f (n - 1 - i)
      congr 1; omega
    rw [e]
    have : n + 1 - 1 - 0 = n := by omega
    rw [this]; omega
theorem sumN_cyc {n : Nat} {f : Nat → Int} : sumN n (fun i => f ((i + 1) % n)) = sumN n f := by
  cases n with
  | zero => rfl
  | succ n =>
    show sumN n (fun i => f ((i + 1) % (n + 1))) + f ((n + 1) % (n + 1)) = sumN (n + 1) f
    rw [sumN_shiftl, Nat.mod_self]
    have e : sumN n (fun i => f ((i + 1) % (n + 1))) = sumN n (fun i => f (i + 1)) := sumN_congr fun i hi => by
      show f ((i + 1) % (n + 1)) = f (i + 1)
      rw [Nat.mod_eq_of_lt (by omega)]
    rw [e]; omega
theorem sumN_swap {n m : Nat} {f : Nat → Nat → Int} : sumN n (fun i => sumN m (fun j => f i j)) = sumN m (fun j => sumN n (fun i => f i j)) := by
  induction n with
  | zero => show 0 = sumN m (fun _ => 0); rw [sumN_const, Int.mul_zero]
  | succ n ih =>
    show sumN n (fun i => sumN m (fun j => f i j)) + sumN m (fun j => f n j) = sumN m (fun j => sumN n (fun i => f i j) + f n j)
    rw [sumN_add, ih]
/-! ### pigeons -/
theorem php : ∀ (n : Nat) (f : Nat → Nat), (∀ i, i ≤ n → f i < n) → ∃ i j, i < j ∧ j ≤ n ∧ f i = f j
  | 0, f, h => absurd (h 0 (Nat.le_refl 0)) (Nat.not_lt_zero _)
  | n + 1, f, h => by
    by_cases hv : ∃ i, i ≤ n ∧ f i = f (n + 1)
    · obtain ⟨i, hi, e⟩ := hv
      exact ⟨i, n + 1, by omega, Nat.le_refl _, e⟩
    · have no : ∀ i, i ≤ n → f i ≠ f (n + 1) := fun i hi e => hv ⟨i, hi, e⟩
      obtain ⟨i, j, h1, h2, e⟩ := php n (fun i => if f i = n then f (n + 1) else f i) fun i hi => by
        have a := h i (by omega)
        have b := h (n + 1) (Nat.le_refl _)
        have c := no i hi
        show (if f i = n then f (n + 1) else f i) < n
        split
        · omega
        · omega
      refine ⟨i, j, h1, by omega, ?_⟩
      have e' : (if f i = n then f (n + 1) else f i) = (if f j = n then f (n + 1) else f j) := e
      have ci := no i (by omega)
      have cj := no j h2
      split at e' <;> split at e' <;> omega
/-- the least of a kind -/
theorem least (P : Nat → Prop) : ∀ n, P n → ∃ m, P m ∧ m ≤ n ∧ ∀ k, k < m → ¬ P k := by
  intro n
  induction n using Nat.strongRecOn with
  | _ n ih =>
    intro h
    by_cases e : ∃ k, k < n ∧ P k
    · obtain ⟨k, hk, pk⟩ := e
      obtain ⟨m, h1, h2, h3⟩ := ih k hk pk
      exact ⟨m, h1, by omega, h3⟩
    · exact ⟨n, h, Nat.le_refl _, fun k hk pk => e ⟨k, hk, pk⟩⟩
/-- a bound of finitely many -/
theorem bound_of (n : Nat) (f : Nat → Int) : ∃ b : Int, 0 ≤ b ∧ ∀ i, i < n → f i ≤ b := by
  induction n with
  | zero => exact ⟨0, Int.le_refl _, fun i hi => absurd hi (Nat.not_lt_zero _)⟩
  | succ n ih =>
    obtain ⟨b, h0, h⟩ := ih
    refine ⟨max b (f n), by omega, fun i hi => ?_⟩
    by_cases e : i = n
    · subst e; omega
    · have := h i (by omega); omega
theorem bound2_of (n m : Nat) (f : Nat → Nat → Int) : ∃ b : Int, 0 ≤ b ∧ ∀ i j, i < n → j < m → f i j ≤ b := by
  induction n with
  | zero => exact ⟨0, Int.le_refl _, fun i j hi => absurd hi (Nat.not_lt_zero _)⟩
  | succ n ih =>
    obtain ⟨b, h0, h⟩ := ih
    obtain ⟨c, c0, hc⟩ := bound_of m (f n)
    refine ⟨max b c, by omega, fun i j hi hj => ?_⟩
    by_cases e : i = n
    · subst e; have := hc j hj; omega
    · have := h i j (by omega) hj; omega
end K45
set_option Elab.async false
set_option linter.all false
set_option maxRecDepth 100000
set_option maxHeartbeats 4000000
namespace K45
open PySem PySem.Spec PyProof.Rows L2
abbrev St := L2.St
/-! ### heaps -/
theorem same_new {H : Hp} {p : Addr} {o : HO} (h : H p = none) : Same H (upd H p o) := fun b u e => by
  rw [upd_ne (ne_of_none e h)]; exact e
theorem same_mut {H H' : Hp} {p : Addr} {o : HO} (S : Same H H') (h : H p = none) : Same H (upd H' p o) := fun b u e => by
  rw [upd_ne (ne_of_none e h)]; exact S b u e
theorem _root_.L2.Same.rd {H H' : Hp} {a : Addr} {u : HO} (S : Same H H') (h : Rd H a u) : Rd H' a u := by
  rcases h with h | ⟨o, h⟩
  · exact .inl (S _ _ h)
  · exact .inr ⟨o, S _ _ h⟩
theorem _root_.L2.Same.l {K : PySem.W.Frag} {H H' : Hp} {a : Addr} {xs : List V} (S : Same H H') (h : SqL K H a xs) : SqL K H' a xs := S.seq h
theorem _root_.L2.Same.t {K : PySem.W.Frag} {H H' : Hp} {a : Addr} {xs : List V} (S : Same H H') (h : SqT K H a xs) : SqT K H' a xs := by
  rcases h with h | h
  · exact .inl (S.rd h)
  · exact .inr h
theorem _root_.L2.Same.none {H H' : Hp} {p : Addr} (S : Same H H') (h : H' p = none) : H p = none := S.free h
/-! ### lists by a function -/
def tab (n : Nat) (f : Nat → V) : List V := (List.range n).map f
theorem tab_len (n : Nat) (f : Nat → V) : (tab n f).length = n := by unfold tab; rw [List.length_map, List.length_range]
theorem tab_get {n : Nat} {f : Nat → V} {i : Nat} (h : i < n) : (tab n f)[i]? = some (f i) := by
  unfold tab; rw [List.getElem?_map, List.getElem?_range h]; rfl
theorem at_tab {n : Nat} {f : Nat → V} {i : Nat} (h : i < n) : atI (tab n f) (i : Int) = some (f i) := atI_nat (tab_get h)
theorem tab_succ (n : Nat) (f : Nat → V) : tab (n + 1) f = tab n f ++ [f n] := by
  unfold tab; rw [List.range_succ, List.map_append]; rfl
theorem tab_zero (f : Nat → V) : tab 0 f = [] := rfl
theorem tab_congr {n : Nat} {f g : Nat → V} (h : ∀ i, i < n → f i = g i) : tab n f = tab n g := by
  unfold tab; exact List.map_congr_left fun i hi => h i (List.mem_range.mp hi)
theorem tab_set {n : Nat} {f : Nat → V} {j : Nat} {v : V} : (tab n f).set j v = tab n (up f j v) := by
  apply List.ext_getElem?
  intro i
  by_cases hi : i < n
  · rw [tab_get hi]
    by_cases e : i = j
    · subst e
      rw [List.getElem?_set_self (by rw [tab_len]; exact hi), up_same]
    · rw [List.getElem?_set_ne (Ne.symm e), tab_get hi, up_ne e]
  · rw [List.getElem?_eq_none (by rw [List.length_set, tab_len]; omega), List.getElem?_eq_none (by rw [tab_len]; omega)]
theorem tab_up {α : Type} {n : Nat} {f : Nat → α} {g : α → V} {j : Nat} {v : α} : tab n (up (fun i => g (f i)) j (g v)) = tab n (fun i => g (up f j v i)) :=
  tab_congr fun i _ => by
    by_cases e : i = j
    · subst e; rw [up_same, up_same]
    · rw [up_ne e, up_ne e]
theorem tab_rep (n : Nat) (v : V) : (List.replicate n [v]).flatten = tab n (fun _ => v) := by
  induction n with
  | zero => rfl
  | succ n ih => rw [List.replicate_succ', List.flatten_append, ih, tab_succ]; rfl
theorem tab_rep2 (n : Nat) (v : V) : List.replicate n v = tab n (fun _ => v) := by
  induction n with
  | zero => rfl
  | succ n ih => rw [List.replicate_succ', ih, tab_succ]
theorem small_line {n : Nat} (h : n ≤ 100000) : n ≤ sizeLine := Nat.le_trans h (by decide)
theorem small_lt {n : Nat} (h : n < 100000) : n < sizeLine := Nat.lt_of_lt_of_le h (by decide)
/-- an int or None -/
def oV : Option Int → V
  | none => .non
  | some i => .int i
theorem oV_none {o : Option Int} (h : o = none) : oV o = .non := by rw [h]; rfl
theorem oV_some {o : Option Int} {i : Int} (h : o = some i) : oV o = .int i := by rw [h]; rfl
/-! ### rows of rows -/
def LL (K : PySem.W.Frag) (H : Hp) (a : Addr) (n m : Nat) (F : Nat → Nat → V) : Prop := ∃ ad : Nat → Addr, SqL K H a (tab n fun i => .ref (ad i)) ∧ ∀ i, i < n → SqL K H (ad i) (tab m (F i))
def TR (K : PySem.W.Frag) (H : Hp) (a : Addr) (n m : Nat) (F : Nat → Nat → V) : Prop := ∃ ad : Nat → Addr, SqT K H a (tab n fun i => .ref (ad i)) ∧ ∀ i, i < n → SqT K H (ad i) (tab m (F i))
/-- a list of lists of one's own: all apart -/
def MM (H : Hp) (a : Addr) (n m : Nat) (ad : Nat → Addr) (F : Nat → Nat → V) : Prop :=
  H a = some (.lst (tab n fun i => .ref (ad i))) ∧ (∀ i, i < n → H (ad i) = some (.lst (tab m (F i)))) ∧ (∀ i, i < n → ad i ≠ a) ∧ ∀ i j, i < n → j < n → ad i = ad j → i = j
section
variable {K : PySem.W.Frag} {H H' : Hp} {a : Addr} {n m : Nat} {F : Nat → Nat → V}
theorem _root_.L2.Same.ll (S : Same H H') (h : LL K H a n m F) : LL K H' a n m F := by
  obtain ⟨ad, h1, h2⟩ := h
  exact ⟨ad, S.l h1, fun i hi => S.l (h2 i hi)⟩
theorem _root_.L2.Same.tt (S : Same H H') (h : TR K H a n m F) : TR K H' a n m F := by
  obtain ⟨ad, h1, h2⟩ := h
  exact ⟨ad, S.t h1, fun i hi => S.t (h2 i hi)⟩
theorem MM.ll {ad : Nat → Addr} (h : MM H a n m ad F) : LL K H a n m F := ⟨ad, SqL.of h.1, fun i hi => SqL.of (h.2.1 i hi)⟩
theorem LL.congr {F' : Nat → Nat → V} (h : LL K H a n m F) (e : ∀ i j, i < n → j < m → F i j = F' i j) : LL K H a n m F' := by
  obtain ⟨ad, h1, h2⟩ := h
  exact ⟨ad, h1, fun i hi => by rw [← tab_congr (f := F i) fun j hj => e i j hi hj]; exact h2 i hi⟩
theorem TR.congr {F' : Nat → Nat → V} (h : TR K H a n m F) (e : ∀ i j, i < n → j < m → F i j = F' i j) : TR K H a n m F' := by
  obtain ⟨ad, h1, h2⟩ := h
  exact ⟨ad, h1, fun i hi => by rw [← tab_congr (f := F i) fun j hj => e i j hi hj]; exact h2 i hi⟩
theorem _root_.L2.Same.mm {ad : Nat → Addr} (S : Same H H') (h : MM H a n m ad F) : MM H' a n m ad F := ⟨S _ _ h.1, fun i hi => S _ _ (h.2.1 i hi), h.2.2⟩
/-- a row is stored -/
theorem MM.put {ad : Nat → Addr} (h : MM H a n m ad F) {x y : Nat} {v : V} (hx : x < n) : MM (upd H (ad x) (.lst ((tab m (F x)).set y v))) a n m ad (up F x (up (F x) y v)) := by
  obtain ⟨h1, h2, h3, h4⟩ := h
  refine ⟨by rw [upd_ne (Ne.symm (h3 x hx))]; exact h1, fun i hi => ?_, h3, h4⟩
  by_cases e : i = x
  · subst e; rw [upd_same, tab_set, up_same]
  · rw [upd_ne (fun z => e (h4 i x hi hx z)), up_ne e]; exact h2 i hi
end
/-! ### what a reading evaluates to, the heap as it was -/
def Va (te : TE) (σ : St) (H : Hp) (v : V) : Prop := ∀ Q : VK, Q v H → te σ H Q
def Vt (t : TT) (σ : St) (H : Hp) (b : Bool) : Prop := ∀ Q : Bool → Hp → Prop, Q b H → t σ H Q
def Vs (ta : TA) (σ : St) (H : Hp) (vs : List V) : Prop := ∀ Q : List V → Hp → Prop, Q vs H → ta σ H Q
def Vr (r : R2) (x y : V) (H : Hp) (z : V) : Prop := ∀ Q : VK, Q z H → r x y H Q
def Vc (r : List V → Hp → VK → Prop) (vs : List V) (H : Hp) (z : V) : Prop := ∀ Q : VK, Q z H → r vs H Q
/-- what is new on the way, all that stood stands -/
def Al (te : TE) (σ : St) (H : Hp) (P : V → Hp → Prop) : Prop := ∀ Q : VK, (∀ v H', Same H H' → P v H' → Q v H') → te σ H Q
def At (t : TT) (σ : St) (H : Hp) (b : Bool) : Prop := ∀ Q : Bool → Hp → Prop, (∀ H', Same H H' → Q b H') → t σ H Q
def Ac (ta : TA) (σ : St) (H : Hp) (P : List V → Hp → Prop) : Prop := ∀ Q : List V → Hp → Prop, (∀ vs H', Same H H' → P vs H' → Q vs H') → ta σ H Q
/-- a promise's end -/
def Ret (P : V → Hp → Prop) (H : Hp) (Q : VK) : Prop := ∀ v H', Same H H' → P v H' → Q v H'
abbrev IsNewL (H : Hp) (xs : List V) : V → Hp → Prop := fun v H' => ∃ p, v = .ref p ∧ H p = none ∧ H' p = some (.lst xs)
abbrev IsNewT (H : Hp) (xs : List V) : V → Hp → Prop := fun v H' => ∃ p, v = .ref p ∧ H p = none ∧ H' p = some (.tup xs)
section
variable {K : PySem.W.Frag} {σ : St} {H H' : Hp} {ta tb te tx ty : TE} {t u : TT} {x y z v w : V} {r : R2} {P : V → Hp → Prop}
theorem va_var {i : Nat} (h : σ[i]? = some (some v)) : Va (tVar i) σ H v := fun _ q => ⟨v, h, q⟩
theorem va_c : Va (tC v) σ H v := fun _ q => q
theorem va_op (ha : Va ta σ H x) (hb : Va tb σ H y) (hr : Vr r x y H z) : Va (tOp r ta tb) σ H z := fun Q q => ha _ (hb _ (hr Q q))
theorem va_is (h : Va te σ H v) (e : v = w) : Va te σ H w := e ▸ h
theorem vr_add {i j : Int} : Vr rAdd (.int i) (.int j) H (.int (i + j)) := fun _ q => ⟨i, j, rfl, rfl, q⟩
theorem vr_sub {i j : Int} : Vr rSub (.int i) (.int j) H (.int (i - j)) := fun _ q => ⟨i, j, rfl, rfl, q⟩
theorem vr_mul {i j : Int} (h : CMul i j) : Vr rMul (.int i) (.int j) H (.int (i * j)) := fun _ q => ⟨i, j, rfl, rfl, h, q⟩
theorem vr_fdv {i j : Int} (h : 0 < j ∧ j < 1073741824) : Vr rFdv (.int i) (.int j) H (.int (i / j)) := fun _ q => ⟨i, j, rfl, rfl, h, q⟩
theorem vr_mod {i j : Int} (h : 0 < j) : Vr rMod (.int i) (.int j) H (.int (i % j)) := fun _ q => ⟨i, j, rfl, rfl, h, q⟩
theorem vr_lt {i j : Int} : Vr rLt (.int i) (.int j) H (.bl (decide (i < j))) := fun _ q => ⟨i, j, rfl, rfl, q⟩
theorem vr_le {i j : Int} : Vr rLe (.int i) (.int j) H (.bl (decide (i ≤ j))) := fun _ q => ⟨i, j, rfl, rfl, q⟩
theorem vr_gt {i j : Int} : Vr rGt (.int i) (.int j) H (.bl (decide (j < i))) := fun _ q => ⟨i, j, rfl, rfl, q⟩
theorem vr_ge {i j : Int} : Vr rGe (.int i) (.int j) H (.bl (decide (j ≤ i))) := fun _ q => ⟨i, j, rfl, rfl, q⟩
theorem dec_int_eq {i j : Int} : decide (V.int i = V.int j) = decide (i = j) := by
  by_cases h : i = j
  · subst h; rw [decide_eq_true rfl, decide_eq_true rfl]
  · rw [decide_eq_false h, decide_eq_false fun z => h (V.int.inj z)]
theorem vr_eqI {i j : Int} : Vr rEq (.int i) (.int j) H (.bl (decide (i = j))) := fun _ q => ⟨rfl, by rw [dec_int_eq]; exact q⟩
theorem vr_neI {i j : Int} : Vr rNe (.int i) (.int j) H (.bl (!decide (i = j))) := fun _ q => ⟨rfl, by rw [dec_int_eq]; exact q⟩
theorem vr_eq (h : scal x y = true) : Vr rEq x y H (.bl (decide (x = y))) := fun _ q => ⟨h, q⟩
theorem vr_ne (h : scal x y = true) : Vr rNe x y H (.bl (!decide (x = y))) := fun _ q => ⟨h, q⟩
theorem vr_isN : Vr kIsN x .non H (.bl (decide (x = .non))) := fun _ q => ⟨rfl, q⟩
theorem vr_notN : Vr kNotN x .non H (.bl (!decide (x = .non))) := fun _ q => ⟨rfl, q⟩
theorem vr_isNi {i : Int} : Vr kIsN (.int i) .non H (.bl false) := fun _ q => ⟨rfl, q⟩
theorem vr_notNi {i : Int} : Vr kNotN (.int i) .non H (.bl true) := fun _ q => ⟨rfl, q⟩
theorem vr_isNn : Vr kIsN .non .non H (.bl true) := fun _ q => ⟨rfl, q⟩
theorem vr_notNn : Vr kNotN .non .non H (.bl false) := fun _ q => ⟨rfl, q⟩
theorem vr_isNr {a : Addr} : Vr kIsN (.ref a) .non H (.bl false) := fun _ q => ⟨rfl, q⟩
theorem vr_notNr {a : Addr} : Vr kNotN (.ref a) .non H (.bl true) := fun _ q => ⟨rfl, q⟩
theorem vr_xL {p : Addr} {xs : List V} {i : Int} (h : SqL K H p xs) (e : atI xs i = some v) : Vr (rIx K) (.ref p) (.int i) H v := fun _ q => .inl ⟨p, xs, i, v, rfl, rfl, h, e, q⟩
theorem vr_xT {p : Addr} {xs : List V} {i : Int} (h : SqT K H p xs) (e : atI xs i = some v) : Vr (rIx K) (.ref p) (.int i) H v := fun _ q => .inr (.inl ⟨p, xs, i, v, rfl, rfl, h, e, q⟩)
theorem vr_xLl {p : Addr} {n : Nat} {f : Nat → V} {i : Nat} (h : SqL K H p (tab n f)) (hi : i < n) : Vr (rIx K) (.ref p) (.int (i : Int)) H (f i) := vr_xL h (at_tab hi)
theorem vr_xTt {p : Addr} {n : Nat} {f : Nat → V} {i : Nat} (h : SqT K H p (tab n f)) (hi : i < n) : Vr (rIx K) (.ref p) (.int (i : Int)) H (f i) := vr_xT h (at_tab hi)
theorem vr_xHl {p : Addr} {n : Nat} {f : Nat → V} {i : Nat} (h : H p = some (.lst (tab n f))) (hi : i < n) : Vr (rIx K) (.ref p) (.int (i : Int)) H (f i) := vr_xL (SqL.of h) (at_tab hi)
theorem va_LL {a : Addr} {n m i j : Nat} {F : Nat → Nat → V} (h : LL K H a n m F) (ha : Va ta σ H (.ref a)) (hx : Va tx σ H (.int (i : Int))) (hy : Va ty σ H (.int (j : Int))) (hi : i < n) (hj : j < m) :
    Va (tOp (rIx K) (tOp (rIx K) ta tx) ty) σ H (F i j) := by
  obtain ⟨ad, h1, h2⟩ := h
  exact va_op (va_op ha hx (vr_xLl h1 hi)) hy (vr_xLl (h2 i hi) hj)
theorem va_TT {a : Addr} {n m i j : Nat} {F : Nat → Nat → V} (h : TR K H a n m F) (ha : Va ta σ H (.ref a)) (hx : Va tx σ H (.int (i : Int))) (hy : Va ty σ H (.int (j : Int))) (hi : i < n) (hj : j < m) :
    Va (tOp (rIx K) (tOp (rIx K) ta tx) ty) σ H (F i j) := by
  obtain ⟨ad, h1, h2⟩ := h
  exact va_op (va_op ha hx (vr_xTt h1 hi)) hy (vr_xTt (h2 i hi) hj)
theorem va_un {i : Int} (ha : Va ta σ H (.int i)) : Va (tUn (rU fun i => .int (-i)) ta) σ H (.int (-i)) := fun Q q => ha _ ⟨i, rfl, q⟩
theorem va_not {a : Bool} (ha : Va ta σ H (.bl a)) : Va (tNotV ta) σ H (.bl (!a)) := fun Q q => ha _ ⟨a, rfl, q⟩
theorem va_and {a b : Bool} (ha : Va ta σ H (.bl a)) (hb : a = true → Va tb σ H (.bl b)) : Va (tAndV ta tb) σ H (.bl (a && b)) := fun Q q => ha _ ⟨a, rfl, by
  cases a with
  | true => exact iteT (hb rfl Q q)
  | false => exact iteF q⟩
theorem va_or {a b : Bool} (ha : Va ta σ H (.bl a)) (hb : a = false → Va tb σ H (.bl b)) : Va (tOrV ta tb) σ H (.bl (a || b)) := fun Q q => ha _ ⟨a, rfl, by
  cases a with
  | true => exact iteT q
  | false => exact iteF (hb rfl Q q)⟩
theorem va_if {b : Bool} (h : Vt t σ H b) (h1 : b = true → Va ta σ H v) (h2 : b = false → Va tb σ H v) : Va (tIf t ta tb) σ H v := fun Q q => h _ (by
  cases b with
  | true => exact iteT (h1 rfl Q q)
  | false => exact iteF (h2 rfl Q q))
theorem vt_test {b : Bool} (h : Va te σ H (.bl b)) : Vt (tTest te) σ H b := fun Q q => h _ ⟨b, rfl, q⟩
theorem vt_B {b : Bool} (h : Va te σ H (.bl b)) : Vt (tB te) σ H b := fun Q q => h _ ⟨b, rfl, q⟩
theorem vt_is {a b : Bool} (h : Vt t σ H a) (e : a = b) : Vt t σ H b := e ▸ h
theorem vt_not {a : Bool} (h : Vt t σ H a) : Vt (tNot t) σ H (!a) := fun Q q => h _ q
theorem vt_and {a b : Bool} (h : Vt t σ H a) (k : a = true → Vt u σ H b) : Vt (tAnd t u) σ H (a && b) := fun Q q => h _ (by
  cases a with
  | true => exact iteT (k rfl Q q)
  | false => exact iteF q)
theorem vt_or {a b : Bool} (h : Vt t σ H a) (k : a = false → Vt u σ H b) : Vt (tOr t u) σ H (a || b) := fun Q q => h _ (by
  cases a with
  | true => exact iteT q
  | false => exact iteF (k rfl Q q))
theorem vs_nil : Vs tNil σ H [] := fun _ q => q
theorem vs_cons {tr : TA} {vs : List V} (h : Va ta σ H x) (k : Vs tr σ H vs) : Vs (tCons ta tr) σ H (x :: vs) := fun Q q => h _ (k _ q)
theorem va_cb {c : List V → Hp → VK → Prop} {tr : TA} {vs : List V} (h : Vs tr σ H vs) (k : Vc c vs H z) : Va (tCB c tr) σ H z := fun Q q => h _ (k Q q)
theorem vc_lenL {p : Addr} {xs : List V} (h : SqL K H p xs) : Vc (cLen K) [.ref p] H (.int xs.length) := fun _ q => ⟨p, xs, rfl, .inl h, q⟩
theorem vc_lenT {p : Addr} {xs : List V} (h : SqT K H p xs) : Vc (cLen K) [.ref p] H (.int xs.length) := fun _ q => ⟨p, xs, rfl, .inr h, q⟩
theorem vc_lenLt {p : Addr} {n : Nat} {f : Nat → V} (h : SqL K H p (tab n f)) : Vc (cLen K) [.ref p] H (.int (n : Int)) := fun Q q => vc_lenL h Q (by rw [tab_len]; exact q)
theorem vc_lenTt {p : Addr} {n : Nat} {f : Nat → V} (h : SqT K H p (tab n f)) : Vc (cLen K) [.ref p] H (.int (n : Int)) := fun Q q => vc_lenT h Q (by rw [tab_len]; exact q)
theorem vc_lenHl {p : Addr} {n : Nat} {f : Nat → V} (h : H p = some (.lst (tab n f))) : Vc (cLen K) [.ref p] H (.int (n : Int)) := vc_lenLt (K := K) (SqL.of h)
theorem vc_lenLL {p : Addr} {n m : Nat} {F : Nat → Nat → V} (h : LL K H p n m F) : Vc (cLen K) [.ref p] H (.int (n : Int)) := let ⟨_, h1, _⟩ := h; vc_lenLt h1
theorem vc_lenTT {p : Addr} {n m : Nat} {F : Nat → Nat → V} (h : TR K H p n m F) : Vc (cLen K) [.ref p] H (.int (n : Int)) := let ⟨_, h1, _⟩ := h; vc_lenTt h1
theorem vc_abs {i : Int} : Vc cAbs [.int i] H (.int (if i < 0 then -i else i)) := fun _ q => ⟨i, rfl, q⟩
theorem vc_max2 {i j : Int} : Vc cMax2 [.int i, .int j] H (.int (if j > i then j else i)) := fun _ q => ⟨i, j, rfl, q⟩
theorem vc_min2 {i j : Int} : Vc cMin2 [.int i, .int j] H (.int (if j < i then j else i)) := fun _ q => ⟨i, j, rfl, q⟩
theorem vc_int {i : Int} : Vc cInt [.int i] H (.int i) := fun _ q => .inl ⟨i, rfl, q⟩
theorem vc_intB {b : Bool} : Vc cInt [.bl b] H (.int (if b then 1 else 0)) := fun _ q => .inr ⟨b, rfl, q⟩
theorem vc_isi {T : String} {b : Bool} (h : IsV K H x T b) : Vc (cIsi K) [x, .ty T] H (.bl b) := fun _ q => ⟨x, T, b, rfl, h, q⟩
theorem va_call {sp : Sp} {tr : TA} {vs : List V} (h : Vs tr σ H vs) (k : ∀ (Q : VK) (E : XK), Q z H → sp vs H Q E) : Va (tCall sp [] E0 tr) σ H z := fun Q q => h _ (by rw [List.append_nil]; exact k Q _ q)
/-! ### with new things -/
theorem al_va (h : Va te σ H v) : Al te σ H (fun w _ => w = v) := fun Q q => h _ (q v H (Same.refl H) rfl)
theorem Al.imp {P' : V → Hp → Prop} (h : Al te σ H P) (k : ∀ v H', Same H H' → P v H' → P' v H') : Al te σ H P' := fun Q q => h Q fun v H' S p => q v H' S (k v H' S p)
theorem at_vt {b : Bool} (h : Vt t σ H b) : At t σ H b := fun Q q => h _ (q H (Same.refl H))
theorem at_test {b : Bool} (h : Al te σ H (fun w _ => w = .bl b)) : At (tTest te) σ H b := fun Q q => h _ fun v H' S e => ⟨b, e, q H' S⟩
theorem at_B {b : Bool} (h : Al te σ H (fun w _ => w = .bl b)) : At (tB te) σ H b := fun Q q => h _ fun v H' S e => ⟨b, e, q H' S⟩
theorem at_not {b : Bool} (h : At t σ H b) : At (tNot t) σ H (!b) := fun Q q => h _ q
theorem at_is {a b : Bool} (h : At t σ H a) (e : a = b) : At t σ H b := e ▸ h
theorem at_or {a b : Bool} (h : At t σ H a) (k : a = false → ∀ H1, Same H H1 → At u σ H1 b) : At (tOr t u) σ H (a || b) := fun Q q => h _ fun H1 S => (by
  cases a with
  | true => exact iteT (q H1 S)
  | false => exact iteF (k rfl H1 S Q fun H2 S2 => q H2 (S.trans S2)))
theorem at_and {a b : Bool} (h : At t σ H a) (k : a = true → ∀ H1, Same H H1 → At u σ H1 b) : At (tAnd t u) σ H (a && b) := fun Q q => h _ fun H1 S => (by
  cases a with
  | true => exact iteT (k rfl H1 S Q fun H2 S2 => q H2 (S.trans S2))
  | false => exact iteF (q H1 S))
theorem vt_and0 (h : Vt t σ H false) : Vt (tAnd t u) σ H false := fun Q q => h _ (iteF q)
theorem vt_or1 (h : Vt t σ H true) : Vt (tOr t u) σ H true := fun Q q => h _ (iteT q)
theorem vt_andT {b : Bool} (h : Vt t σ H true) (k : Vt u σ H b) : Vt (tAnd t u) σ H b := fun Q q => h _ (iteT (k Q q))
theorem vt_orF {b : Bool} (h : Vt t σ H false) (k : Vt u σ H b) : Vt (tOr t u) σ H b := fun Q q => h _ (iteF (k Q q))
theorem va_ifT (h : Vt t σ H true) (k : Va ta σ H v) : Va (tIf t ta tb) σ H v := fun Q q => h _ (iteT (k Q q))
theorem va_ifF (h : Vt t σ H false) (k : Va tb σ H v) : Va (tIf t ta tb) σ H v := fun Q q => h _ (iteF (k Q q))
theorem at_and0 (h : At t σ H false) : At (tAnd t u) σ H false := fun Q q => h _ fun H1 S => iteF (q H1 S)
theorem at_or1 (h : At t σ H true) : At (tOr t u) σ H true := fun Q q => h _ fun H1 S => iteT (q H1 S)
theorem at_andT {b : Bool} (h : At t σ H true) (k : ∀ H1, Same H H1 → At u σ H1 b) : At (tAnd t u) σ H b := fun Q q => h _ fun H1 S => iteT (k H1 S Q fun H2 S2 => q H2 (S.trans S2))
theorem at_orF {b : Bool} (h : At t σ H false) (k : ∀ H1, Same H H1 → At u σ H1 b) : At (tOr t u) σ H b := fun Q q => h _ fun H1 S => iteF (k H1 S Q fun H2 S2 => q H2 (S.trans S2))
theorem al_if {b : Bool} (h : At t σ H b) (h1 : b = true → ∀ H1, Same H H1 → Al ta σ H1 P) (h2 : b = false → ∀ H1, Same H H1 → Al tb σ H1 P) : Al (tIf t ta tb) σ H P := fun Q q => h _ fun H1 S => (by
  cases b with
  | true => exact iteT (h1 rfl H1 S Q fun v H2 S2 p => q v H2 (S.trans S2) p)
  | false => exact iteF (h2 rfl H1 S Q fun v H2 S2 p => q v H2 (S.trans S2) p))
theorem al_call {sp : Sp} {tr : TA} {vs : List V} (h : Vs tr σ H vs) (k : ∀ (Q : VK) (E : XK), Ret P H Q → sp vs H Q E) : Al (tCall sp [] E0 tr) σ H P := fun Q q => h _ (by rw [List.append_nil]; exact k Q _ q)
theorem al_lst {tr : TA} {vs : List V} (h : Vs tr σ H vs) (hl : vs.length ≤ 100000 := by simp) : Al (tLst tr) σ H (IsNewL H vs) := fun Q q => h _ ⟨small_line hl, fun p hp => q _ _ (same_new hp) ⟨p, rfl, hp, upd_same⟩⟩
theorem al_tup {tr : TA} {vs : List V} (h : Vs tr σ H vs) (hl : vs.length ≤ 100000 := by simp) : Al (tTup tr) σ H (IsNewT H vs) := fun Q q => h _ ⟨small_line hl, fun p hp => q _ _ (same_new hp) ⟨p, rfl, hp, upd_same⟩⟩
/-- [v] * n -/
theorem al_rep {tr : TA} {n : Nat} (h : Vs tr σ H [v]) (hb : ∀ H1, Same H H1 → Va tb σ H1 (.int (n : Int))) (hn : n ≤ 100000) : Al (tOp rRep (tLst tr) tb) σ H (IsNewL H (tab n fun _ => v)) := fun Q q =>
  al_lst h (show 1 ≤ 100000 by decide) _ fun w H1 S ⟨p, e, hp, hl⟩ => hb H1 S _ (by
    subst e
    refine ⟨p, (n : Int), [v], rfl, rfl, hl, by omega, by omega, ?_, fun r hr => ?_⟩
    · simp only [List.length_singleton, Int.toNat_natCast, Nat.one_mul]; exact small_line hn
    · refine q _ _ (S.trans (same_new hr)) ⟨r, rfl, S.none hr, ?_⟩
      rw [upd_same, Int.toNat_natCast, tab_rep])
end
/-! ### statements -/
section
variable {K : PySem.W.Frag} {σ : St} {H H' : Hp} {ta tb te tx ty : TE} {t : TT} {x y z v w : V} {P : V → Hp → Prop} {D : Ends} {tu tw tz : TS}
theorem st_next (k : D.nx σ H) : tNext D σ H := k
theorem st_cont (k : D.ct σ H) : tCont D σ H := k
theorem sq (h : tu { D with nx := tz D } σ H) : tSeq tu tz D σ H := h
theorem st_asg {i : Nat} (h : Va te σ H v) (k : D.nx (σ.set i (some v)) H) : tAsg te (gName i) D σ H := h _ k
theorem st_asgA {i : Nat} (h : Al te σ H P) (k : ∀ v H1, Same H H1 → P v H1 → D.nx (σ.set i (some v)) H1) : tAsg te (gName i) D σ H := h _ k
theorem st_ret (h : Va te σ H v) (k : D.rt v H) : tRet te D σ H := h _ k
theorem st_retA (h : Al te σ H P) (k : ∀ v H1, Same H H1 → P v H1 → D.rt v H1) : tRet te D σ H := h _ k
theorem st_if {b : Bool} (h : Vt t σ H b) (h1 : b = true → tu D σ H) (h2 : b = false → tw D σ H) : tIfS t tu tw D σ H := h _ (by
  cases b with
  | true => exact iteT (h1 rfl)
  | false => exact iteF (h2 rfl))
theorem st_ifT (h : Vt t σ H true) (h1 : tu D σ H) : tIfS t tu tw D σ H := h _ (iteT h1)
theorem st_ifF (h : Vt t σ H false) (h1 : tw D σ H) : tIfS t tu tw D σ H := h _ (iteF h1)
theorem st_ifA {b : Bool} (h : At t σ H b) (h1 : b = true → ∀ H1, Same H H1 → tu D σ H1) (h2 : b = false → ∀ H1, Same H H1 → tw D σ H1) : tIfS t tu tw D σ H := h _ fun H1 S => (by
  cases b with
  | true => exact iteT (h1 rfl H1 S)
  | false => exact iteF (h2 rfl H1 S))
theorem st_ifTA (h : At t σ H true) (h1 : ∀ H1, Same H H1 → tu D σ H1) : tIfS t tu tw D σ H := h _ fun H1 S => iteT (h1 H1 S)
theorem st_ifFA (h : At t σ H false) (h1 : ∀ H1, Same H H1 → tw D σ H1) : tIfS t tu tw D σ H := h _ fun H1 S => iteF (h1 H1 S)
theorem st_drop (h : Va te σ H v) (k : D.nx σ H) : tDrop te D σ H := h _ k
theorem st_dropA (h : Al te σ H P) (k : ∀ v H1, Same H H1 → P v H1 → D.nx σ H1) : tDrop te D σ H := h _ k
theorem st_app {l : Addr} {xs : List V} (ho : Va ta σ H (.ref l)) (he : Va te σ H v) (hl : H l = some (.lst xs)) (hz : xs.length < 100000) (k : D.nx σ (upd H l (.lst (xs ++ [v])))) :
    tDrop (tBM K "list" rAppend ta (tCons te tNil)) D σ H := ho _ ⟨.inl ⟨rfl, xs, SqL.of hl⟩, he _ ⟨l, xs, v, rfl, rfl, hl, small_lt hz, k⟩⟩
theorem st_appA {l : Addr} {xs : List V} (ho : Va ta σ H (.ref l)) (he : Al te σ H P) (hl : H l = some (.lst xs)) (hz : xs.length < 100000) (k : ∀ v H1, Same H H1 → P v H1 → D.nx σ (upd H1 l (.lst (xs ++ [v])))) :
    tDrop (tBM K "list" rAppend ta (tCons te tNil)) D σ H := ho _ ⟨.inl ⟨rfl, xs, SqL.of hl⟩, he _ fun v H1 S p => ⟨l, xs, v, rfl, rfl, S _ _ hl, small_lt hz, k v H1 S p⟩⟩
theorem ixN_of {n j : Nat} (hj : j < n) : ixN n (j : Int) = some j := by
  unfold ixN
  rw [if_pos (by omega), if_pos (by omega)]
  simp
theorem st_setL {l : Addr} {n j : Nat} {f : Nat → V} (he : Va te σ H v) (ho : Va ta σ H (.ref l)) (hi : Va tb σ H (.int (j : Int))) (hl : H l = some (.lst (tab n f))) (hj : j < n) (k : D.nx σ (upd H l (.lst (tab n (up f j v))))) :
    tAsg te (gSub ta tb rSetL) D σ H := he _ (ho _ (hi _ ⟨l, tab n f, (j : Int), j, rfl, rfl, hl, ixN_of (by rw [tab_len]; exact hj), by rw [tab_set]; exact k⟩))
/-- a[x][y] = e, a a list of lists of one's own -/
theorem st_setMM {a : Addr} {n m i j : Nat} {ad : Nat → Addr} {F : Nat → Nat → V} (he : Va te σ H v) (ho : Va ta σ H (.ref a)) (hx : Va tx σ H (.int (i : Int))) (hy : Va ty σ H (.int (j : Int))) (hM : MM H a n m ad F) (hi : i < n) (hj : j < m)
    (k : ∀ H1, (∀ b, (∀ q, q < n → b ≠ ad q) → H1 b = H b) → MM H1 a n m ad (up F i (up (F i) j v)) → D.nx σ H1) : tAsg te (gSub (tOp (rIx K) ta tx) ty rSetL) D σ H :=
  he _ (va_op ho hx (vr_xHl hM.1 hi) _ (hy _ ⟨ad i, tab m (F i), (j : Int), j, rfl, rfl, hM.2.1 i hi, ixN_of (by rw [tab_len]; exact hj), k _ (fun b hb => upd_ne (hb i hi)) (hM.put hi)⟩))
theorem st_forR {tr : TA} {j n : Nat} (h : Vs tr σ H [.int (n : Int)]) (hn : n ≤ 100000) (Pv : Nat → St → Hp → Prop) (h0 : Pv 0 σ H)
    (hs : ∀ i σ' H', i < n → Pv i σ' H' → tu { D with nx := Pv (i + 1), ct := Pv (i + 1), bk := D.nx } (σ'.set j (some (.int (i : Int)))) H') (hd : ∀ σ' H', Pv n σ' H' → D.nx σ' H') : tFor (iRng1 tr) (gName j) tu D σ H :=
  h _ ⟨(n : Int), rfl, by omega, by omega, for_range (lo := 0) (n := ((n : Int)).toNat) Pv h0 (fun i σ' H' hi p => by
    have e0 : (0 : Int) + (i : Int) = (i : Int) := Int.zero_add _
    show tu { D with nx := Pv (i + 1), ct := Pv (i + 1), bk := D.nx } (σ'.set j (some (.int ((0 : Int) + (i : Int))))) H'
    rw [e0]
    exact hs i σ' H' (by simpa using hi) p) (fun σ' H' p => hd σ' H' (by simpa using p))⟩
theorem st_forL {a : Addr} {n j : Nat} {f : Nat → V} (h : Va ta σ H (.ref a)) (Pv : Nat → St → Hp → Prop) (h0 : Pv 0 σ H) (hl : ∀ i σ' H', Pv i σ' H' → SqL K H' a (tab n f))
    (hs : ∀ i σ' H', i < n → Pv i σ' H' → tu { D with nx := Pv (i + 1), ct := Pv (i + 1), bk := D.nx } (σ'.set j (some (f i))) H') (hd : ∀ σ' H', Pv n σ' H' → D.nx σ' H') : tFor (iList K ta) (gName j) tu D σ H :=
  h _ ⟨a, rfl, ⟨_, hl 0 σ H h0⟩, for_list (xs := tab n f) Pv h0 (fun i σ' H' _ p => hl i σ' H' p) (fun i x σ' H' hx p => by
    have hi : i < n := by have := (List.getElem?_eq_some_iff.mp hx).1; rw [tab_len] at this; exact this
    rw [tab_get hi] at hx
    cases hx
    exact hs i σ' H' hi p) (fun σ' H' p => hd σ' H' (by rw [tab_len] at p; exact p))⟩
theorem st_forT {a : Addr} {n j : Nat} {f : Nat → V} (h : Va ta σ H (.ref a)) (Pv : Nat → St → Hp → Prop) (h0 : Pv 0 σ H) (hl : ∀ i σ' H', Pv i σ' H' → SqT K H' a (tab n f))
    (hs : ∀ i σ' H', i < n → Pv i σ' H' → tu { D with nx := Pv (i + 1), ct := Pv (i + 1), bk := D.nx } (σ'.set j (some (f i))) H') (hd : ∀ σ' H', Pv n σ' H' → D.nx σ' H') : tFor (iTup K ta) (gName j) tu D σ H :=
  h _ ⟨a, rfl, ⟨_, hl 0 σ H h0⟩, for_tup (xs := tab n f) Pv h0 (fun i σ' H' _ p => hl i σ' H' p) (fun i x σ' H' hx p => by
    have hi : i < n := by have := (List.getElem?_eq_some_iff.mp hx).1; rw [tab_len] at this; exact this
    rw [tab_get hi] at hx
    cases hx
    exact hs i σ' H' hi p) (fun σ' H' p => hd σ' H' (by rw [tab_len] at p; exact p))⟩
/-- while, by a word that counts the turns left -/
theorem st_while (W : Nat → St → Hp → Prop) (m0 : Nat) (h0 : W m0 σ H)
    (hs : ∀ m σ' H', W m σ' H' → ∃ b, Vt t σ' H' b ∧ (b = true → ∃ N : St → Hp → Prop, (∀ σ2 H2, N σ2 H2 → ∃ m', m' < m ∧ W m' σ2 H2) ∧ tu { D with nx := N, ct := N, bk := D.nx } σ' H') ∧ (b = false → D.nx σ' H')) : tWhile t tu D σ H :=
  ⟨W, ⟨m0, h0⟩, fun m σ' H' hw => by
    obtain ⟨b, hb, h1, h2⟩ := hs m σ' H' hw
    refine hb _ ?_
    cases b with
    | true => exact iteT (h1 rfl)
    | false => exact iteF (h2 rfl)⟩
/-! ### the same, something behind -/
theorem q_asg {i : Nat} (h : Va te σ H v) (k : tz D (σ.set i (some v)) H) : tSeq (tAsg te (gName i)) tz D σ H := st_asg (D := { D with nx := tz D }) h k
theorem q_asgA {i : Nat} (h : Al te σ H P) (k : ∀ v H1, Same H H1 → P v H1 → tz D (σ.set i (some v)) H1) : tSeq (tAsg te (gName i)) tz D σ H := st_asgA (D := { D with nx := tz D }) h k
theorem q_if {b : Bool} (h : Vt t σ H b) (h1 : b = true → tu { D with nx := tz D } σ H) (h2 : b = false → tw { D with nx := tz D } σ H) : tSeq (tIfS t tu tw) tz D σ H := st_if (D := { D with nx := tz D }) h h1 h2
theorem q_ifT (h : Vt t σ H true) (h1 : tu { D with nx := tz D } σ H) : tSeq (tIfS t tu tw) tz D σ H := st_ifT (D := { D with nx := tz D }) h h1
theorem q_ifF (h : Vt t σ H false) (h1 : tw { D with nx := tz D } σ H) : tSeq (tIfS t tu tw) tz D σ H := st_ifF (D := { D with nx := tz D }) h h1
theorem q_ifA {b : Bool} (h : At t σ H b) (h1 : b = true → ∀ H1, Same H H1 → tu { D with nx := tz D } σ H1) (h2 : b = false → ∀ H1, Same H H1 → tw { D with nx := tz D } σ H1) : tSeq (tIfS t tu tw) tz D σ H := st_ifA (D := { D with nx := tz D }) h h1 h2
theorem q_ifTA (h : At t σ H true) (h1 : ∀ H1, Same H H1 → tu { D with nx := tz D } σ H1) : tSeq (tIfS t tu tw) tz D σ H := st_ifTA (D := { D with nx := tz D }) h h1
theorem q_ifFA (h : At t σ H false) (h1 : ∀ H1, Same H H1 → tw { D with nx := tz D } σ H1) : tSeq (tIfS t tu tw) tz D σ H := st_ifFA (D := { D with nx := tz D }) h h1
theorem q_drop (h : Va te σ H v) (k : tz D σ H) : tSeq (tDrop te) tz D σ H := st_drop (D := { D with nx := tz D }) h k
theorem q_dropA (h : Al te σ H P) (k : ∀ v H1, Same H H1 → P v H1 → tz D σ H1) : tSeq (tDrop te) tz D σ H := st_dropA (D := { D with nx := tz D }) h k
theorem q_app {l : Addr} {xs : List V} (ho : Va ta σ H (.ref l)) (he : Va te σ H v) (hl : H l = some (.lst xs)) (hz : xs.length < 100000) (k : tz D σ (upd H l (.lst (xs ++ [v])))) : tSeq (tDrop (tBM K "list" rAppend ta (tCons te tNil))) tz D σ H := st_app (D := { D with nx := tz D }) ho he hl hz k
theorem q_appA {l : Addr} {xs : List V} (ho : Va ta σ H (.ref l)) (he : Al te σ H P) (hl : H l = some (.lst xs)) (hz : xs.length < 100000) (k : ∀ v H1, Same H H1 → P v H1 → tz D σ (upd H1 l (.lst (xs ++ [v])))) : tSeq (tDrop (tBM K "list" rAppend ta (tCons te tNil))) tz D σ H := st_appA (D := { D with nx := tz D }) ho he hl hz k
theorem q_setL {l : Addr} {n j : Nat} {f : Nat → V} (he : Va te σ H v) (ho : Va ta σ H (.ref l)) (hi : Va tb σ H (.int (j : Int))) (hl : H l = some (.lst (tab n f))) (hj : j < n) (k : tz D σ (upd H l (.lst (tab n (up f j v))))) : tSeq (tAsg te (gSub ta tb rSetL)) tz D σ H := st_setL (D := { D with nx := tz D }) he ho hi hl hj k
theorem q_setMM {a : Addr} {n m i j : Nat} {ad : Nat → Addr} {F : Nat → Nat → V} (he : Va te σ H v) (ho : Va ta σ H (.ref a)) (hx : Va tx σ H (.int (i : Int))) (hy : Va ty σ H (.int (j : Int))) (hM : MM H a n m ad F) (hi : i < n) (hj : j < m)
    (k : ∀ H1, (∀ b, (∀ q, q < n → b ≠ ad q) → H1 b = H b) → MM H1 a n m ad (up F i (up (F i) j v)) → tz D σ H1) : tSeq (tAsg te (gSub (tOp (rIx K) ta tx) ty rSetL)) tz D σ H := st_setMM (D := { D with nx := tz D }) he ho hx hy hM hi hj k
theorem q_forR {tr : TA} {j n : Nat} (h : Vs tr σ H [.int (n : Int)]) (hn : n ≤ 100000) (Pv : Nat → St → Hp → Prop) (h0 : Pv 0 σ H)
    (hs : ∀ i σ' H', i < n → Pv i σ' H' → tu { D with nx := Pv (i + 1), ct := Pv (i + 1), bk := tz D } (σ'.set j (some (.int (i : Int)))) H') (hd : ∀ σ' H', Pv n σ' H' → tz D σ' H') : tSeq (tFor (iRng1 tr) (gName j) tu) tz D σ H := st_forR (D := { D with nx := tz D }) h hn Pv h0 hs hd
theorem q_forL {a : Addr} {n j : Nat} {f : Nat → V} (h : Va ta σ H (.ref a)) (Pv : Nat → St → Hp → Prop) (h0 : Pv 0 σ H) (hl : ∀ i σ' H', Pv i σ' H' → SqL K H' a (tab n f))
    (hs : ∀ i σ' H', i < n → Pv i σ' H' → tu { D with nx := Pv (i + 1), ct := Pv (i + 1), bk := tz D } (σ'.set j (some (f i))) H') (hd : ∀ σ' H', Pv n σ' H' → tz D σ' H') : tSeq (tFor (iList K ta) (gName j) tu) tz D σ H := st_forL (D := { D with nx := tz D }) h Pv h0 hl hs hd
theorem q_forT {a : Addr} {n j : Nat} {f : Nat → V} (h : Va ta σ H (.ref a)) (Pv : Nat → St → Hp → Prop) (h0 : Pv 0 σ H) (hl : ∀ i σ' H', Pv i σ' H' → SqT K H' a (tab n f))
    (hs : ∀ i σ' H', i < n → Pv i σ' H' → tu { D with nx := Pv (i + 1), ct := Pv (i + 1), bk := tz D } (σ'.set j (some (f i))) H') (hd : ∀ σ' H', Pv n σ' H' → tz D σ' H') : tSeq (tFor (iTup K ta) (gName j) tu) tz D σ H := st_forT (D := { D with nx := tz D }) h Pv h0 hl hs hd
theorem q_while (W : Nat → St → Hp → Prop) (m0 : Nat) (h0 : W m0 σ H)
    (hs : ∀ m σ' H', W m σ' H' → ∃ b, Vt t σ' H' b ∧ (b = true → ∃ N : St → Hp → Prop, (∀ σ2 H2, N σ2 H2 → ∃ m', m' < m ∧ W m' σ2 H2) ∧ tu { D with nx := N, ct := N, bk := tz D } σ' H') ∧ (b = false → tz D σ' H')) : tSeq (tWhile t tu) tz D σ H := st_while (D := { D with nx := tz D }) W m0 h0 hs
theorem q_ifFn (h : Vt t σ H false) (k : tz D σ H) : tSeq (tIfS t tu tNext) tz D σ H := q_ifF h k
theorem q_ifn {b : Bool} (h : Vt t σ H b) (h1 : b = true → tu { D with nx := tz D } σ H) (h2 : b = false → tz D σ H) : tSeq (tIfS t tu tNext) tz D σ H := q_if h h1 h2
theorem q_ifFAn (h : At t σ H false) (k : ∀ H1, Same H H1 → tz D σ H1) : tSeq (tIfS t tu tNext) tz D σ H := q_ifFA h k
theorem q_ifAn {b : Bool} (h : At t σ H b) (h1 : b = true → ∀ H1, Same H H1 → tu { D with nx := tz D } σ H1) (h2 : b = false → ∀ H1, Same H H1 → tz D σ H1) : tSeq (tIfS t tu tNext) tz D σ H := q_ifA h h1 h2
end
end K45
set_option Elab.async false
set_option linter.all false
set_option maxRecDepth 100000
set_option maxHeartbeats 4000000
namespace K45
open PySem PySem.Spec PyProof.Rows L2
/-! ### comprehensions -/
/-- what a clause walks: n turns; at turn i the slots are sl i, what is new on the way apart -/
def Src (wi : TI) (g : TG) (vs : List Nat) (σ : St) (H : Hp) (n : Nat) (sl : Nat → St) : Prop :=
  ∀ R : It → Hp → Prop, (∀ (J : It) (H1 : Hp), Same H H1 → (∀ i H', Same H1 H' → i < n → J.go i H') → (∀ H', Same H1 H' → J.stop n H') →
    (∀ i H' x H'', Same H1 H' → i < n → J.yld i H' x H'' → Same H' H'' ∧ ∀ Q : St → Hp → Prop, (∀ H3, Same H'' H3 → Q (sl i) H3) → g x (wipe σ vs) H'' Q) → R J H1) → wi σ H R
section
variable {K : PySem.W.Frag} {σ : St} {H : Hp} {ta te : TE} {vs : List Nat} {wi : TI} {g : TG} {tt : TT} {n : Nat} {sl : Nat → St}
theorem src_R {tr : TA} {j : Nat} (h : Vs tr σ H [.int (n : Int)]) (hn : n ≤ 100000) : Src (iRng1 tr) (gName j) vs σ H n (fun i => (wipe σ vs).set j (some (.int (i : Int)))) := fun R k =>
  h _ ⟨(n : Int), rfl, by omega, by omega, k _ H (Same.refl H) (fun i H' _ hi => (by show i < ((n : Int)).toNat; simpa using hi)) (fun H' _ => (by show ((n : Int)).toNat ≤ n; simp)) (fun i H' x H'' _ hi hy => by
    obtain ⟨e1, e2⟩ := hy
    subst e1 e2
    refine ⟨Same.refl _, fun Q q => ?_⟩
    have e0 : (0 : Int) + (i : Int) = (i : Int) := Int.zero_add _
    show Q ((wipe σ vs).set j (some (.int ((0 : Int) + (i : Int))))) _
    rw [e0]
    exact q _ (Same.refl _))⟩
theorem src_L {a : Addr} {j : Nat} {f : Nat → V} (h : Va ta σ H (.ref a)) (hl : SqL K H a (tab n f)) : Src (iList K ta) (gName j) vs σ H n (fun i => (wipe σ vs).set j (some (f i))) := fun R k =>
  h _ ⟨a, rfl, ⟨_, hl⟩, k _ H (Same.refl H) (fun i H' S hi => ⟨_, f i, S.l hl, tab_get hi⟩) (fun H' S => ⟨_, S.l hl, by rw [tab_len]; exact Nat.le_refl _⟩) (fun i H' x H'' S hi hy => by
    obtain ⟨e1, e2⟩ := hy
    subst e1
    have e3 := e2 _ (S.l hl)
    rw [tab_get hi] at e3
    cases e3
    exact ⟨Same.refl _, fun Q q => q _ (Same.refl _)⟩)⟩
theorem src_T {a : Addr} {j : Nat} {f : Nat → V} (h : Va ta σ H (.ref a)) (hl : SqT K H a (tab n f)) : Src (iTup K ta) (gName j) vs σ H n (fun i => (wipe σ vs).set j (some (f i))) := fun R k =>
  h _ ⟨a, rfl, ⟨_, hl⟩, k _ H (Same.refl H) (fun i H' S hi => ⟨_, f i, S.t hl, tab_get hi⟩) (fun H' S => ⟨_, S.t hl, by rw [tab_len]; exact Nat.le_refl _⟩) (fun i H' x H'' S hi hy => by
    obtain ⟨e1, e2⟩ := hy
    subst e1
    have e3 := e2 _ (S.t hl)
    rw [tab_get hi] at e3
    cases e3
    exact ⟨Same.refl _, fun Q q => q _ (Same.refl _)⟩)⟩
/-- over a new list -/
theorem src_NL {j : Nat} {f : Nat → V} {P : V → Hp → Prop} (h : Al ta σ H P) (hl : ∀ v H1, Same H H1 → P v H1 → ∃ a, v = .ref a ∧ SqL K H1 a (tab n f)) : Src (iList K ta) (gName j) vs σ H n (fun i => (wipe σ vs).set j (some (f i))) := fun R k =>
  h _ fun v H1 S1 p => by
    obtain ⟨a, rfl, hl⟩ := hl v H1 S1 p
    exact ⟨a, rfl, ⟨_, hl⟩, k _ H1 S1 (fun i H' S hi => ⟨_, f i, S.l hl, tab_get hi⟩) (fun H' S => ⟨_, S.l hl, by rw [tab_len]; exact Nat.le_refl _⟩) (fun i H' x H'' S hi hy => by
      obtain ⟨e1, e2⟩ := hy
      subst e1
      have e3 := e2 _ (S.l hl)
      rw [tab_get hi] at e3
      cases e3
      exact ⟨Same.refl _, fun Q q => q _ (Same.refl _)⟩)⟩
/-- the general one: P of the turn, the list made so far, its place, the heap -/
theorem lc_gen (src : Src wi g vs σ H n sl) (hw : ∀ i, wipe (sl i) vs = wipe σ vs) (hn : n < 100000) (P : Nat → List V → Addr → Hp → Prop) {Q : VK}
    (h0 : ∀ D H1, Same H H1 → H D = none → H1 D = some (.lst []) → P 0 [] D H1)
    (hs : ∀ i xs D H1, i < n → Same H H1 → H D = none → H1 D = some (.lst xs) → P i xs D H1 → ∀ H2, Same H1 H2 → ∃ b, At tt (sl i) H2 b ∧
      (b = true → ∀ H3, Same H2 H3 → Al te (sl i) H3 (fun v H4 => P (i + 1) (xs ++ [v]) D (upd H4 D (.lst (xs ++ [v]))))) ∧ (b = false → ∀ H3, Same H2 H3 → P (i + 1) xs D H3))
    (hd : ∀ xs D H1, Same H H1 → H D = none → H1 D = some (.lst xs) → P n xs D H1 → Q (.ref D) H1) : tLc wi g tt te vs σ H Q := by
  refine src _ fun J H1 S1 go stop yl D hD => ?_
  have hD0 : H D = none := S1.none hD
  refine ⟨fun i m H' => m = n - i ∧ i ≤ n ∧ ∃ xs, Same H1 H' ∧ H' D = some (.lst xs) ∧ xs.length ≤ i ∧ P i xs D H', ⟨n, by simp, Nat.zero_le _, [], same_new hD, upd_same, Nat.le_refl _, h0 D _ (S1.trans (same_new hD)) hD0 upd_same⟩, ?_⟩
  rintro i m H' ⟨rfl, hi, xs, SH, eD, hl, p⟩
  by_cases hlt : i < n
  · refine .inr ⟨go i H' SH hlt, fun H'' => i + 1 ≤ n ∧ ∃ xs, Same H1 H'' ∧ H'' D = some (.lst xs) ∧ xs.length ≤ i + 1 ∧ P (i + 1) xs D H'', fun H'' p' => ⟨n - (i + 1), by omega, rfl, p'⟩, fun x H2 y => ?_⟩
    obtain ⟨S2, gq⟩ := yl i H' x H2 SH hlt y
    refine gq _ fun H3 S3 => ⟨hw i, ?_⟩
    obtain ⟨b, ht, h1, h2⟩ := hs i xs D H' hlt (S1.trans SH) hD0 eD p H3 (S2.trans S3)
    refine ht _ fun H4 S4 => ?_
    cases b with
    | true =>
      refine iteT (h1 rfl H4 S4 _ fun v H5 S5 q => ⟨xs, S5 _ _ (S4 _ _ ((S2.trans S3) _ _ eD)), small_lt (by omega), hlt, _, same_mut (((SH.trans (S2.trans S3)).trans S4).trans S5) hD, upd_same, ?_, q⟩)
      rw [List.length_append]
      exact Nat.succ_le_succ hl
    | false => exact iteF ⟨hlt, xs, (SH.trans (S2.trans S3)).trans S4, S4 _ _ ((S2.trans S3) _ _ eD), Nat.le_succ_of_le hl, h2 rfl H4 S4⟩
  · have e : i = n := by omega
    subst e
    exact .inl ⟨stop H' SH, hd xs D H' (S1.trans SH) hD0 eD p⟩
def given (n : Nat) (b : Nat → Bool) (f : Nat → V) : List V := ((List.range n).filter b).map f
theorem given_succ (n : Nat) (b : Nat → Bool) (f : Nat → V) : given (n + 1) b f = if b n then given n b f ++ [f n] else given n b f := by
  unfold given
  rw [List.range_succ, List.filter_append, List.map_append]
  cases h : b n with
  | true => simp [List.filter_cons, h]
  | false => simp [List.filter_cons, h]
theorem given_all (n : Nat) (f : Nat → V) : given n (fun _ => true) f = tab n f := by
  unfold given tab
  rw [List.filter_eq_self.mpr (fun _ _ => rfl)]
/-- plain values, with a test -/
theorem al_lcF (b : Nat → Bool) (f : Nat → V) (src : Src wi g vs σ H n sl) (hw : ∀ i, wipe (sl i) vs = wipe σ vs) (hn : n < 100000) (ht : ∀ i H1, i < n → Same H H1 → At tt (sl i) H1 (b i))
    (he : ∀ i H1, i < n → Same H H1 → b i = true → Al te (sl i) H1 (fun v _ => v = f i)) : Al (tLc wi g tt te vs) σ H (IsNewL H (given n b f)) := fun Q q =>
  lc_gen src hw hn (fun i xs D H1 => xs = given i b f) (fun _ _ _ _ _ => rfl) (fun i xs D H1 hi S hD eD p H2 S2 => ⟨b i, ht i H2 hi (S.trans S2), fun hb H3 S3 => (he i H3 hi ((S.trans S2).trans S3) hb).imp fun v H4 _ ev => by
      rw [given_succ, hb, if_pos rfl, p, ev], fun hb H3 S3 => by rw [given_succ, hb, if_neg Bool.false_ne_true, p]⟩)
    (fun xs D H1 S hD eD p => q _ _ S ⟨D, rfl, hD, by rw [eD, p]⟩)
theorem at_yes : At tYes σ H true := fun Q q => q H (Same.refl H)
theorem al_lcV (f : Nat → V) (src : Src wi g vs σ H n sl) (hw : ∀ i, wipe (sl i) vs = wipe σ vs) (hn : n < 100000)
    (he : ∀ i H1, i < n → Same H H1 → Al te (sl i) H1 (fun v _ => v = f i)) : Al (tLc wi g tYes te vs) σ H (IsNewL H (tab n f)) := by
  rw [← given_all]
  exact al_lcF (fun _ => true) f src hw hn (fun _ _ _ _ => at_yes) fun i H1 hi S _ => he i H1 hi S
/-- things made anew, one a turn -/
abbrev IsNews (H : Hp) (n : Nat) (o : Nat → HO) : V → Hp → Prop := fun v H' => ∃ (p : Addr) (ad : Nat → Addr), v = .ref p ∧ H p = none ∧ H' p = some (.lst (tab n fun i => .ref (ad i))) ∧ (∀ i, i < n → H' (ad i) = some (o i)) ∧ (∀ i, i < n → H (ad i) = none) ∧ (∀ i, i < n → ad i ≠ p) ∧ ∀ i j, i < n → j < n → ad i = ad j → i = j
theorem al_lcN (o : Nat → HO) (src : Src wi g vs σ H n sl) (hw : ∀ i, wipe (sl i) vs = wipe σ vs) (hn : n < 100000)
    (he : ∀ i H1, i < n → Same H H1 → Al te (sl i) H1 (fun v H2 => ∃ q, v = .ref q ∧ H1 q = none ∧ H2 q = some (o i))) : Al (tLc wi g tYes te vs) σ H (IsNews H n o) := fun Q q =>
  lc_gen src hw hn (fun k xs D H' => ∃ ad : Nat → Addr, xs = tab k (fun i => .ref (ad i)) ∧ (∀ i, i < k → H' (ad i) = some (o i)) ∧ (∀ i, i < k → H (ad i) = none) ∧ (∀ i, i < k → ad i ≠ D) ∧ ∀ i j, i < k → j < k → ad i = ad j → i = j)
    (fun D H1 _ _ _ => ⟨fun _ => 0, rfl, fun i hi => absurd hi (Nat.not_lt_zero i), fun i hi => absurd hi (Nat.not_lt_zero i), fun i hi => absurd hi (Nat.not_lt_zero i), fun i j hi => absurd hi (Nat.not_lt_zero i)⟩)
    (fun k xs D H1 hk S hD eD ⟨ad, e1, e2, e3, e4, e5⟩ H2 S2 => ⟨true, at_yes, fun _ H3 S3 => (he k H3 hk ((S.trans S2).trans S3)).imp fun v H4 S4 ⟨r, ev, hr, ho⟩ => by
      have S13 := S2.trans S3
      have nr : ∀ i, i < k → ad i ≠ r := fun i hi z => by
        have := S13 _ _ (e2 i hi)
        rw [z, hr] at this
        cases this
      have rD : r ≠ D := fun z => by
        have := S13 _ _ eD
        rw [← z, hr] at this
        cases this
      refine ⟨up ad k r, ?_, fun i hi => ?_, fun i hi => ?_, fun i hi => ?_, fun i j hi hj e => ?_⟩
      · rw [tab_succ, e1, ev, up_same]
        exact congrArg (· ++ [V.ref r]) (tab_congr fun i hi => by rw [up_ne (Nat.ne_of_lt hi)])
      · by_cases h : i = k
        · subst h; rw [up_same, upd_ne rD]; exact ho
        · rw [up_ne h, upd_ne (e4 i (by omega))]; exact S4 _ _ (S13 _ _ (e2 i (by omega)))
      · by_cases h : i = k
        · subst h; rw [up_same]; exact ((S.trans S2).trans S3).none hr
        · rw [up_ne h]; exact e3 i (by omega)
      · by_cases h : i = k
        · subst h; rw [up_same]; exact rD
        · rw [up_ne h]; exact e4 i (by omega)
      · by_cases h : i = k
        · by_cases h' : j = k
          · rw [h, h']
          · rw [h, up_same, up_ne h'] at e; exact absurd e.symm (nr j (by omega))
        · by_cases h' : j = k
          · rw [h', up_same, up_ne h] at e; exact absurd e (nr i (by omega))
          · rw [up_ne h, up_ne h'] at e; exact e5 i j (by omega) (by omega) e, fun hb => absurd hb.symm Bool.false_ne_true⟩)
    (fun xs D H1 S hD eD ⟨ad, e1, e2, e3, e4, e5⟩ => q _ _ S ⟨D, ad, rfl, hD, by rw [eD, e1], e2, e3, e4, e5⟩)
theorem news_mm {n m : Nat} {F : Nat → Nat → V} {v : V} {H' : Hp} (h : IsNews H n (fun i => .lst (tab m (F i))) v H') : ∃ p ad, v = .ref p ∧ H p = none ∧ (∀ i, i < n → H (ad i) = none) ∧ MM H' p n m ad F := by
  obtain ⟨p, ad, e, hp, h1, h2, h3, h4, h5⟩ := h
  exact ⟨p, ad, e, hp, h3, h1, h2, h4, h5⟩
end
section
variable {K : PySem.W.Frag} {σ : St} {H : Hp} {ta tb te : TE} {P P2 : V → Hp → Prop} {z v : V}
/-- a call whose one argument is made on the way -/
theorem al_cb1 {c : List V → Hp → VK → Prop} (h : Al te σ H P) (k : ∀ v H1, Same H H1 → P v H1 → ∀ Q : VK, (∀ w H2, Same H1 H2 → P2 w H2 → Q w H2) → c [v] H1 Q) : Al (tCB c (tCons te tNil)) σ H P2 :=
  fun Q q => h _ fun v H1 S p => k v H1 S p Q fun w H2 S2 p2 => q w H2 (S.trans S2) p2
theorem al_cb0 {c : List V → Hp → VK → Prop} {tr : TA} {vs : List V} (h : Vs tr σ H vs) (k : ∀ Q : VK, (∀ w H2, Same H H2 → P2 w H2 → Q w H2) → c vs H Q) : Al (tCB c tr) σ H P2 := fun Q q => h _ (k Q q)
theorem al_all {n : Nat} {b : Nat → Bool} (h : Al te σ H (IsNewL H (tab n fun i => .bl (b i)))) : Al (tCB (rAll K) (tCons te tNil)) σ H (fun w _ => w = .bl ((List.range n).all b)) :=
  al_cb1 h fun v H1 S ⟨p, e, hp, hl⟩ Q q => ⟨p, (List.range n).map b, by rw [e], SqL.of (by rw [hl]; unfold tab; rw [List.map_map]; rfl), by
    refine q _ H1 (Same.refl _) ?_
    rw [List.all_map]; rfl⟩
theorem all_true {n : Nat} {b : Nat → Bool} (h : ∀ i, i < n → b i = true) : (List.range n).all b = true := List.all_eq_true.mpr fun i hi => h i (List.mem_range.mp hi)
/-- tuple(a new list) -/
theorem al_tupN {xs : List V} (h : Al te σ H (IsNewL H xs)) : Al (tCB (cTup K) (tCons te tNil)) σ H (IsNewT H xs) :=
  al_cb1 h fun v H1 S ⟨p, e, hp, hl⟩ Q q => ⟨p, xs, by rw [e], .inl ⟨SqL.of hl, fun l hl' => q _ _ (same_new hl') ⟨l, rfl, S.none hl', upd_same⟩⟩⟩
/-- tuple(a list), list(a tuple), list(a list) -/
theorem al_tupL {p : Addr} {xs : List V} (h : Va te σ H (.ref p)) (hl : SqL K H p xs) : Al (tCB (cTup K) (tCons te tNil)) σ H (IsNewT H xs) := fun Q q =>
  h _ ⟨p, xs, rfl, .inl ⟨hl, fun l hl' => q _ _ (same_new hl') ⟨l, rfl, hl', upd_same⟩⟩⟩
theorem al_listT {p : Addr} {xs : List V} (h : Va te σ H (.ref p)) (hl : SqT K H p xs) : Al (tCB (cList K) (tCons te tNil)) σ H (IsNewL H xs) := fun Q q =>
  h _ ⟨p, xs, rfl, .inr hl, fun l hl' => q _ _ (same_new hl') ⟨l, rfl, hl', upd_same⟩⟩
theorem al_listL {p : Addr} {xs : List V} (h : Va te σ H (.ref p)) (hl : SqL K H p xs) : Al (tCB (cList K) (tCons te tNil)) σ H (IsNewL H xs) := fun Q q =>
  h _ ⟨p, xs, rfl, .inl hl, fun l hl' => q _ _ (same_new hl') ⟨l, rfl, hl', upd_same⟩⟩
end
section
variable {K : PySem.W.Frag} {σ : St} {H : Hp} {ta tb te : TE} {D : Ends} {tz : TS}
theorem tab_rev {n : Nat} {f : Nat → V} : (tab n f).reverse = tab n (fun i => f (n - 1 - i)) := by
  apply List.ext_getElem?
  intro i
  by_cases hi : i < n
  · rw [List.getElem?_reverse (by rw [tab_len]; exact hi), tab_len, tab_get (by omega), tab_get hi]
  · rw [List.getElem?_eq_none (by rw [List.length_reverse, tab_len]; omega), List.getElem?_eq_none (by rw [tab_len]; omega)]
theorem q_rev {l : Addr} {xs : List V} (ho : Va ta σ H (.ref l)) (hl : H l = some (.lst xs)) (k : tz D σ (upd H l (.lst xs.reverse))) : tSeq (tDrop (tBM0 K "list" rReverse ta)) tz D σ H :=
  ho _ ⟨.inl ⟨rfl, xs, SqL.of hl⟩, l, xs, rfl, rfl, hl, k⟩
end
def oN : Option Nat → V
  | none => .non
  | some i => .int (i : Int)
theorem oN_some {o : Option Nat} {i : Nat} (h : o = some i) : oN o = .int (i : Int) := by rw [h]; rfl
end K45
set_option Elab.async false
set_option linter.all false
set_option maxRecDepth 100000
set_option maxHeartbeats 1000000
namespace K45
open PySem PySem.Spec PyProof.Rows L2
/-- a tuple of no dict of its own -/
def PT (H : Hp) (a : Addr) (xs : List V) : Prop := ∃ o : Obj, H a = some (.frz o (.tup xs)) ∧ o.dict = none ∧ o.cls = .type "tuple"
theorem PT.sq {K : PySem.W.Frag} {H : Hp} {a : Addr} {xs : List V} (h : PT H a xs) : SqT K H a xs := .inl (.inr (h.imp fun _ e => e.1))
theorem PT.same {H H' : Hp} {a : Addr} {xs : List V} (h : PT H a xs) (S : Same H H') : PT H' a xs := h.imp fun _ e => ⟨S _ _ e.1, e.2⟩
def cTupZ (K : PySem.W.Frag) : List V → Hp → VK → Prop := fun xs H Q => ∃ p ys, xs = [.ref p] ∧ SqL K H p ys ∧ ∀ l H', H l = none → Same H H' → PT H' l ys → Q (.ref l) H'
theorem k_tupleZ {X : Cx} : CallR X (.type "tuple") (cTupZ X.K) := by
  intro pins s σ H xs us Q I r h
  obtain ⟨p, ys, rfl, hq, q⟩ := h
  obtain ⟨u, rfl, rx⟩ := vals1 r
  cases rx
  obtain ⟨its, r', pl, hz⟩ := I.list hq
  have hlen := r'.length
  refine call_tuple_list pl.isList (fun h' kp => ?_) (by simp only [List.size_toArray] <;> omega)
  have I1 : Inv X pins σ H { s with heap := h' } := I.kept (t' := s.toks) kp
  have I2 : Inv X pins σ (upd H h'.objs.size (.frz { cls := .type "tuple", data := .seq its.toArray } (.tup ys))) { s with heap := h'.push { cls := .type "tuple", data := .seq its.toArray } } :=
    I1.laid (t' := s.toks) (fun b o e => Heap.get?_push_of_some _ e) (Nat.le_refl _) ⟨Heap.get?_push_size _ rfl, hz, its, r', IsTup.new _ _⟩
  have hn := I1.hok.fresh (Nat.le_refl h'.objs.size)
  exact ⟨.ref h'.objs.size, _, I2, rfl, q _ _ hn (same_new hn) ⟨_, upd_same, rfl, rfl⟩⟩
section
variable {K : PySem.W.Frag} {σ : St} {H : Hp} {te : TE}
theorem al_tupZ {p : Addr} {xs : List V} (h : Va te σ H (.ref p)) (hl : SqL K H p xs) : Al (tCB (cTupZ K) (tCons te tNil)) σ H (fun v H' => ∃ l, v = .ref l ∧ H l = none ∧ PT H' l xs) := fun Q q =>
  h _ ⟨p, xs, rfl, hl, fun l H' hl' S hP => q _ _ S ⟨l, rfl, hl', hP⟩⟩
end
/-! ### t.index(x) -/
section
variable {X : Cx} {o e : Expr} {to : TE} {t : TA} {cpos apos : Pos}
def tTix (r : V → List V → Hp → VK → Prop) (to : TE) (t : TA) : TE := fun σ H Q => to σ H fun x H1 => (∃ p xs, x = .ref p ∧ PT H1 p xs) ∧ t σ H1 fun ys H2 => r x ys H2 Q
theorem pe_tix {name : Str} {id : String} {r : V → List V → Hp → VK → Prop} (pa : PlainAttrs "tuple") (slot : Slot "tuple" name id) (hty : typeOf (.builtin id) = pure (.type "method_descriptor")) (hm : MtR X id r) (ho : PE X o to) (ha : PA X [e] t)
    (hbase : attributeBase o name X.env (eval o X.env) = eval o X.env := by rfl)
    (hfew : ((backTo cpos (starEach [e] X.env)).all (fun x => !x.1) && (backToKw cpos (keywordEach [] X.env)).all (fun x => x.1.isSome)
      && decide ([e].length + ([] : List Keyword).length + (if ([] : List Keyword).isEmpty then 0 else 1) < 30)) = true := by rfl)
    (hline : (apos.endLine == cpos.line) = true := by rfl) (hs : starEach [e] X.env = (false, eval e X.env) :: starEach [] X.env := by rfl) (hplain : (backTo cpos (starEach [] X.env)).any (·.1) = false := by rfl) :
    PE X (.Call (.Attribute o name apos) [e] [] cpos) (tTix r to t) := by
  refine ⟨fun pins s σ H Q I h => ?_⟩
  refine wpAny_Call_method_late hbase hfew hline rfl (thn (ho.run pins s σ H _ I h) fun v s1 ⟨x, H1, I1, r1, ⟨p, xs, ex, ob, e1, e2, e3⟩, q1⟩ => ?_)
  subst ex
  cases r1
  have hob : s1.heap.get? p = some ob := (I1.hok p _ e1).1
  refine ⟨"tuple", id, pa, slot, hty, ⟨ob, hob, e3⟩, fun a z => by cases z; exact ⟨ob, hob, e2⟩, ?_⟩
  have hA := ha.run cpos pins s1 σ H1 _ I1 q1
  rw [hs] at hA ⊢
  refine Calls.callWith_builtin (by show (false || (backTo cpos (starEach [] X.env)).any (·.1)) = false; rw [hplain] <;> rfl) (Calls.evalArgs_plain ?_)
  exact thn hA fun us s2 ⟨vs, H2, I2, r2, q2⟩ => hm pins s2 σ H2 (.ref p) vs _ us Q I2 rfl r2 q2
end
end K45
set_option linter.all false
namespace K45
/-! ### rings -/
abbrev Gr := Nat → Nat → Option Int
structure IsRing (n : Nat) (w : Gr) (p : Nat) (c : Nat → Nat) : Prop where
  two : 2 ≤ p
  lt : ∀ i, i < p → c i < n
  inj : ∀ i j, i < p → j < p → c i = c j → i = j
  arc : ∀ i, i < p → ∃ g, w (c i) (c ((i + 1) % p)) = some g
def rsum (w : Gr) (p : Nat) (c : Nat → Nat) : Int := sumN p (fun i => (w (c i) (c ((i + 1) % p))).getD 0)
def Feas (n : Nat) (w : Gr) (S : Nat → Int) : Prop := ∀ x y, x < n → y < n → ∀ g, w x y = some g → S x + g ≤ S y
theorem Feas.ring {n p : Nat} {w : Gr} {S : Nat → Int} {c : Nat → Nat} (f : Feas n w S) (r : IsRing n w p c) : rsum w p c ≤ 0 := by
  have h : rsum w p c ≤ sumN p (fun i => S (c ((i + 1) % p)) - S (c i)) := sumN_le fun i hi => by
    obtain ⟨g, e⟩ := r.arc i hi
    have hm : (i + 1) % p < p := Nat.mod_lt _ (by omega)
    have := f _ _ (r.lt i hi) (r.lt _ hm) g e
    show (w (c i) (c ((i + 1) % p))).getD 0 ≤ S (c ((i + 1) % p)) - S (c i)
    rw [e]
    show g ≤ _
    omega
  rw [sumN_sub, sumN_cyc (f := fun i => S (c i))] at h
  omega
/-! ### the machine of greatest_sums -/
structure BS where
  S : Nat → Int
  B : Nat → Option Nat
  L : Option Nat
def bstep (w : Gr) (x y : Nat) (s : BS) : BS := match w x y with
  | none => s
  | some g => if s.S y < s.S x + g then ⟨up s.S y (s.S x + g), up s.B y (some x), some y⟩ else s
def brow (w : Gr) (x : Nat) : Nat → BS → BS
  | 0, s => s
  | k + 1, s => bstep w x k (brow w x k s)
def bpass (w : Gr) (n : Nat) : Nat → BS → BS
  | 0, s => s
  | k + 1, s => brow w k n (bpass w n k s)
def bround (w : Gr) (n : Nat) : Nat → BS
  | 0 => ⟨fun _ => 0, fun _ => none, none⟩
  | k + 1 => bpass w n n { bround w n k with L := none }
/-- what holds in round k, the arcs ahead of (X, Y) done in it -/
structure BI (n : Nat) (w : Gr) (k X Y : Nat) (s : BS) (r τ : Nat → Nat) (T : Nat) : Prop where
  rk : ∀ v, r v ≤ k
  ta : ∀ v, τ v ≤ T
  arcs : ∀ x y g, x < n → y < n → w x y = some g → s.S x + g ≤ s.S y ∨ k ≤ r x ∨ (¬ (x < X ∨ (x = X ∧ y < Y)) ∧ k ≤ r x + 1)
  back : ∀ y, 1 ≤ r y → ∃ x, s.B y = some x ∧ r y ≤ r x + 1
  pos : ∀ y x, s.B y = some x → x < n ∧ y < n ∧ ∃ g, w x y = some g ∧ (s.S y < s.S x + g ∨ (s.S y = s.S x + g ∧ τ x < τ y))
  last : ∀ y, s.L = some y → y < n ∧ r y = k
  calm : s.L = none → ∀ x y g, x < n → y < n → w x y = some g → (x < X ∨ (x = X ∧ y < Y)) → s.S x + g ≤ s.S y
theorem bstep_ok {n : Nat} {w : Gr} (hw : ∀ x, w x x = none) {k X Y : Nat} {s : BS} {r τ : Nat → Nat} {T : Nat} (hX : X < n) (hY : Y < n) (h : BI n w k X Y s r τ T) :
    ∃ r' τ' T', BI n w k X (Y + 1) (bstep w X Y s) r' τ' T' := by
  unfold bstep
  cases e : w X Y with
  | none =>
    refine ⟨r, τ, T, h.rk, h.ta, fun x y g hx hy ea => ?_, h.back, h.pos, h.last, fun l x y g hx hy ea hd => ?_⟩
    · rcases h.arcs x y g hx hy ea with a | a | ⟨a, b⟩
      · exact .inl a
      · exact .inr (.inl a)
      · refine .inr (.inr ⟨fun z => ?_, b⟩)
        rcases z with z | ⟨z1, z2⟩
        · exact a (.inl z)
        · by_cases ey : y = Y
          · subst z1 ey; rw [e] at ea; cases ea
          · exact a (.inr ⟨z1, by omega⟩)
    · by_cases ey : x = X ∧ y = Y
      · obtain ⟨rfl, rfl⟩ := ey; rw [e] at ea; cases ea
      · exact h.calm l x y g hx hy ea (by omega)
  | some g0 =>
    show ∃ r' τ' T', BI n w k X (Y + 1) (if s.S Y < s.S X + g0 then _ else s) r' τ' T'
    have hne : X ≠ Y := fun z => by subst z; rw [hw] at e; cases e
    by_cases hlt : s.S Y < s.S X + g0
    · rw [if_pos hlt]
      have rX : k ≤ r X + 1 := by
        rcases h.arcs X Y g0 hX hY e with a | a | ⟨_, b⟩ <;> omega
      refine ⟨up r Y k, up τ Y (T + 1), T + 1, fun v => ?_, fun v => ?_, fun x y g hx hy ea => ?_, fun y hy => ?_, fun y x hb => ?_, fun y hl => ?_, fun l => ?_⟩
      · by_cases c : v = Y
        · subst c; rw [up_same]; exact Nat.le_refl _
        · rw [up_ne c]; exact h.rk v
      · by_cases c : v = Y
        · subst c; rw [up_same]; exact Nat.le_refl _
        · rw [up_ne c]; have := h.ta v; omega
      · show up s.S Y (s.S X + g0) x + g ≤ up s.S Y (s.S X + g0) y ∨ _
        by_cases cx : x = Y
        · subst cx; rw [up_same (f := r)]; exact .inr (.inl (Nat.le_refl _))
        · rw [up_ne cx, up_ne cx]
          by_cases cy : y = Y
          · subst cy
            rw [up_same]
            by_cases c2 : x = X
            · subst c2; rw [e] at ea; cases ea; exact .inl (Int.le_refl _)
            · rcases h.arcs x y g hx hy ea with a | a | ⟨a, b⟩
              · exact .inl (by omega)
              · exact .inr (.inl a)
              · exact .inr (.inr ⟨by omega, b⟩)
          · rw [up_ne cy]
            rcases h.arcs x y g hx hy ea with a | a | ⟨a, b⟩
            · exact .inl a
            · exact .inr (.inl a)
            · exact .inr (.inr ⟨by omega, b⟩)
      · by_cases c : y = Y
        · subst c
          refine ⟨X, up_same, ?_⟩
          rw [up_same, up_ne hne]; exact rX
        · rw [up_ne c] at hy
          obtain ⟨x, b1, b2⟩ := h.back y hy
          refine ⟨x, (up_ne c).trans b1, ?_⟩
          rw [up_ne c]
          by_cases cx : x = Y
          · subst cx; rw [up_same]; have := h.rk x; have := h.rk y; omega
          · rw [up_ne cx]; exact b2
      · by_cases c : y = Y
        · subst c
          have hb' : up s.B y (some X) y = some x := hb
          rw [up_same] at hb'
          cases hb'
          refine ⟨hX, hY, g0, e, .inr ⟨?_, ?_⟩⟩
          · show up s.S y (s.S X + g0) y = up s.S y (s.S X + g0) X + g0
            rw [up_same, up_ne hne]
          · rw [up_same, up_ne hne]; have := h.ta X; omega
        · have hb' : up s.B Y (some X) y = some x := hb
          rw [up_ne c] at hb'
          obtain ⟨h1, h2, g, ea, q⟩ := h.pos y x hb'
          refine ⟨h1, h2, g, ea, ?_⟩
          show up s.S Y (s.S X + g0) y < up s.S Y (s.S X + g0) x + g ∨ (up s.S Y (s.S X + g0) y = up s.S Y (s.S X + g0) x + g ∧ up τ Y (T + 1) x < up τ Y (T + 1) y)
          rw [up_ne c, up_ne c]
          by_cases cx : x = Y
          · subst cx
            rw [up_same]
            left
            rcases q with q | ⟨q, _⟩ <;> omega
          · rw [up_ne cx, up_ne cx]; exact q
      · have hl' : some Y = some y := hl
        cases hl'
        exact ⟨hY, up_same⟩
      · exact absurd (show some Y = none from l) (by simp)
    · rw [if_neg hlt]
      refine ⟨r, τ, T, h.rk, h.ta, fun x y g hx hy ea => ?_, h.back, h.pos, h.last, fun l x y g hx hy ea hd => ?_⟩
      · rcases h.arcs x y g hx hy ea with a | a | ⟨a, b⟩
        · exact .inl a
        · exact .inr (.inl a)
        · by_cases ey : x = X ∧ y = Y
          · obtain ⟨rfl, rfl⟩ := ey; rw [e] at ea; cases ea; exact .inl (by omega)
          · exact .inr (.inr ⟨by omega, b⟩)
      · by_cases ey : x = X ∧ y = Y
        · obtain ⟨rfl, rfl⟩ := ey; rw [e] at ea; cases ea; omega
        · exact h.calm l x y g hx hy ea (by omega)
def BJ (n : Nat) (w : Gr) (k X Y : Nat) (s : BS) : Prop := ∃ r τ T, BI n w k X Y s r τ T
theorem brow_ok {n : Nat} {w : Gr} (hw : ∀ x, w x x = none) {k X : Nat} {s : BS} (hX : X < n) (h : BJ n w k X 0 s) : ∀ m, m ≤ n → BJ n w k X m (brow w X m s)
  | 0, _ => h
  | m + 1, hm => by
    obtain ⟨r, τ, T, i⟩ := brow_ok hw hX h m (by omega)
    exact bstep_ok hw hX (by omega) i
theorem bi_next {n : Nat} {w : Gr} {k X : Nat} {s : BS} (h : BJ n w k X n s) : BJ n w k (X + 1) 0 s := by
  obtain ⟨r, τ, T, h⟩ := h
  refine ⟨r, τ, T, h.rk, h.ta, fun x y g hx hy ea => ?_, h.back, h.pos, h.last, fun l x y g hx hy ea hd => ?_⟩
  · rcases h.arcs x y g hx hy ea with a | a | ⟨a, b⟩
    · exact .inl a
    · exact .inr (.inl a)
    · exact .inr (.inr ⟨by omega, b⟩)
  · exact h.calm l x y g hx hy ea (by omega)
theorem bpass_ok {n : Nat} {w : Gr} (hw : ∀ x, w x x = none) {k : Nat} {s : BS} (h : BJ n w k 0 0 s) : ∀ m, m ≤ n → BJ n w k m 0 (bpass w n m s)
  | 0, _ => h
  | m + 1, hm => bi_next (brow_ok hw (by omega) (bpass_ok hw h m (by omega)) n (Nat.le_refl n))
theorem bround_ok {n : Nat} {w : Gr} (hw : ∀ x, w x x = none) : ∀ k, BJ n w (k + 1) 0 0 { bround w n k with L := none } ∧ (BJ n w (k + 1) n 0 (bround w n (k + 1)))
  | 0 => by
    have a : BJ n w 1 0 0 { bround w n 0 with L := none } := by
      refine ⟨fun _ => 0, fun _ => 0, 0, fun v => Nat.zero_le _, fun v => Nat.le_refl _, fun x y g _ _ _ => .inr (.inr ⟨by omega, by omega⟩), fun y hy => absurd hy (by omega), fun y x hb => ?_, fun y hl => ?_, fun _ x y g _ _ _ hd => ?_⟩
      · cases (show (none : Option Nat) = some x from hb)
      · cases (show (none : Option Nat) = some y from hl)
      · omega
    exact ⟨a, bpass_ok hw a n (Nat.le_refl n)⟩
  | k + 1 => by
    obtain ⟨r, τ, T, h⟩ := (bround_ok hw k).2
    have a : BJ n w (k + 2) 0 0 { bround w n (k + 1) with L := none } := by
      refine ⟨r, τ, T, fun v => by have := h.rk v; omega, h.ta, fun x y g hx hy ea => ?_, h.back, h.pos, fun y hl => ?_, fun _ x y g _ _ _ hd => ?_⟩
      · rcases h.arcs x y g hx hy ea with c | c | ⟨c, _⟩
        · exact .inl c
        · exact .inr (.inr ⟨by omega, by omega⟩)
        · omega
      · cases (show (none : Option Nat) = some y from hl)
      · omega
    exact ⟨a, bpass_ok hw a n (Nat.le_refl n)⟩
/-- a round without a change: the sums suit -/
theorem bround_feas {n : Nat} {w : Gr} (hw : ∀ x, w x x = none) {k : Nat} (h : (bround w n (k + 1)).L = none) : Feas n w (bround w n (k + 1)).S := by
  obtain ⟨r, τ, T, i⟩ := (bround_ok (n := n) hw k).2
  exact fun x y hx hy g e => i.calm h x y g hx hy e (.inl hx)
/-! ### going back -/
def iter (f : Nat → Nat) : Nat → Nat → Nat
  | 0, v => v
  | k + 1, v => f (iter f k v)
theorem iter_add (f : Nat → Nat) (a b v : Nat) : iter f (a + b) v = iter f b (iter f a v) := by
  induction b with
  | zero => rfl
  | succ b ih => show f (iter f (a + b) v) = f (iter f b (iter f a v)); rw [ih]
def bk (B : Nat → Option Nat) : Nat → Nat := fun v => (B v).getD 0
/-- where ring_behind goes: n steps back, then round the ring of p steps -/
structure Behind (n : Nat) (B : Nat → Option Nat) (y p : Nat) : Prop where
  one : 1 ≤ p
  le : p ≤ n
  def1 : ∀ k, k < n → B (iter (bk B) k y) = some (iter (bk B) (k + 1) y)
  lt1 : ∀ k, k ≤ n → iter (bk B) k y < n
  def2 : ∀ k, k < p → B (iter (bk B) k (iter (bk B) n y)) = some (iter (bk B) (k + 1) (iter (bk B) n y))
  lt2 : ∀ k, k ≤ p → iter (bk B) k (iter (bk B) n y) < n
  per : iter (bk B) p (iter (bk B) n y) = iter (bk B) n y
  min : ∀ k, 1 ≤ k → k < p → iter (bk B) k (iter (bk B) n y) ≠ iter (bk B) n y
theorem Behind.inj {n : Nat} {B : Nat → Option Nat} {y p : Nat} (h : Behind n B y p) : ∀ i j, i < p → j < p → iter (bk B) i (iter (bk B) n y) = iter (bk B) j (iter (bk B) n y) → i = j := by
  have key : ∀ i j, i < j → j < p → iter (bk B) i (iter (bk B) n y) ≠ iter (bk B) j (iter (bk B) n y) := fun i j hij hj e => by
    have e2 : iter (bk B) (i + (p - j)) (iter (bk B) n y) = iter (bk B) (j + (p - j)) (iter (bk B) n y) := by
      rw [iter_add, iter_add (bk B) j, e]
    have e3 : j + (p - j) = p := by omega
    rw [e3, h.per] at e2
    exact h.min (i + (p - j)) (by omega) (by omega) e2
  intro i j hi hj e
  by_cases c : i < j
  · exact absurd e (key i j c hj)
  · by_cases c2 : j < i
    · exact absurd e.symm (key j i c2 hi)
    · omega
theorem behind_of {n : Nat} {w : Gr} (hn : 1 ≤ n) (hw : ∀ x, w x x = none) {y : Nat} (hy : (bround w n n).L = some y) : ∃ p, Behind n (bround w n n).B y p := by
  obtain ⟨m, rfl⟩ : ∃ m, n = m + 1 := ⟨n - 1, by omega⟩
  obtain ⟨r, τ, T, i⟩ := (bround_ok (n := m + 1) hw m).2
  generalize (bround w (m + 1) (m + 1)) = s at i hy
  obtain ⟨hyn, hry⟩ := i.last y hy
  have bkd : ∀ v, 1 ≤ r v → s.B v = some (bk s.B v) ∧ r v ≤ r (bk s.B v) + 1 ∧ bk s.B v < m + 1 := fun v hv => by
    obtain ⟨x, h1, h2⟩ := i.back v hv
    have e : bk s.B v = x := by unfold bk; rw [h1]; rfl
    rw [e]
    exact ⟨h1, h2, (i.pos v x h1).1⟩
  have chain : ∀ k, k ≤ m + 1 → m + 1 ≤ r (iter (bk s.B) k y) + k ∧ iter (bk s.B) k y < m + 1 := fun k => by
    induction k with
    | zero => intro _; exact ⟨by show m + 1 ≤ r y + 0; omega, hyn⟩
    | succ k ih =>
      intro hk
      obtain ⟨a, b⟩ := ih (by omega)
      obtain ⟨_, c, d⟩ := bkd (iter (bk s.B) k y) (by omega)
      exact ⟨by show m + 1 ≤ r (bk s.B (iter (bk s.B) k y)) + (k + 1); omega, d⟩
  have def1 : ∀ k, k < m + 1 → s.B (iter (bk s.B) k y) = some (iter (bk s.B) (k + 1) y) := fun k hk => (bkd _ (by have := (chain k (by omega)).1; omega)).1
  obtain ⟨a, b, hab, hb, e⟩ := php (m + 1) (fun k => iter (bk s.B) k y) fun k hk => (chain k hk).2
  have e' : iter (bk s.B) a y = iter (bk s.B) b y := e
  -- the period
  have back1 : ∀ k, k ≤ b - a → iter (bk s.B) k (iter (bk s.B) (m + 1) y) = iter (bk s.B) (m + 1 + k - (b - a)) y := fun k hk => by
    rw [← iter_add]
    have e1 : m + 1 + k = b + (m + 1 + k - b) := by omega
    have e2 : m + 1 + k - (b - a) = a + (m + 1 + k - b) := by omega
    rw [e2, e1, iter_add, iter_add (bk s.B) a, e']
    congr 1
    omega
  have per0 : iter (bk s.B) (b - a) (iter (bk s.B) (m + 1) y) = iter (bk s.B) (m + 1) y := by
    rw [back1 _ (Nat.le_refl _)]
    congr 1
    omega
  obtain ⟨p, ⟨p1, p2⟩, p3, p4⟩ := least (fun k => 1 ≤ k ∧ iter (bk s.B) k (iter (bk s.B) (m + 1) y) = iter (bk s.B) (m + 1) y) (b - a) ⟨by omega, per0⟩
  refine ⟨p, p1, by omega, def1, fun k hk => (chain k hk).2, fun k hk => ?_, fun k hk => ?_, p2, fun k h1 h2 e => p4 k h2 ⟨h1, e⟩⟩
  · have q := def1 (m + 1 + k - (b - a)) (by omega)
    rw [back1 k (by omega), back1 (k + 1) (by omega)]
    have e3 : m + 1 + (k + 1) - (b - a) = m + 1 + k - (b - a) + 1 := by omega
    rw [e3]
    exact q
  · rw [back1 k (by omega)]
    exact (chain _ (by omega)).2
/-- the ring that ring_behind gives -/
def bring (n : Nat) (B : Nat → Option Nat) (y p : Nat) : Nat → Nat := fun i => iter (bk B) (p - 1 - i) (iter (bk B) n y)
theorem bring_ok {n : Nat} {w : Gr} (hn : 1 ≤ n) (hw : ∀ x, w x x = none) {y p : Nat} (h : Behind n (bround w n n).B y p) : IsRing n w p (bring n (bround w n n).B y p) ∧ 0 < rsum w p (bring n (bround w n n).B y p) := by
  obtain ⟨m, rfl⟩ : ∃ m, n = m + 1 := ⟨n - 1, by omega⟩
  obtain ⟨r, τ, T, i⟩ := (bround_ok (n := m + 1) hw m).2
  generalize (bround w (m + 1) (m + 1)) = s at i h
  have hp := h.one
  generalize hd : iter (bk s.B) (m + 1) y = d at *
  have d2 : ∀ k, k < p → s.B (iter (bk s.B) k d) = some (iter (bk s.B) (k + 1) d) := fun k hk => by have := h.def2 k hk; rw [hd] at this; exact this
  have per : iter (bk s.B) p d = d := by have := h.per; rw [hd] at this; exact this
  have inj := h.inj
  rw [hd] at inj
  -- the arc into the k-th
  have arc : ∀ k, k < p → ∃ g, w (iter (bk s.B) (k + 1) d) (iter (bk s.B) k d) = some g ∧ (s.S (iter (bk s.B) k d) < s.S (iter (bk s.B) (k + 1) d) + g ∨ (s.S (iter (bk s.B) k d) = s.S (iter (bk s.B) (k + 1) d) + g ∧ τ (iter (bk s.B) (k + 1) d) < τ (iter (bk s.B) k d))) := fun k hk => (i.pos _ _ (d2 k hk)).2.2
  have two : 2 ≤ p := by
    by_cases c : p = 1
    · subst c
      obtain ⟨g, e, _⟩ := arc 0 (by omega)
      have e2 : iter (bk s.B) (0 + 1) d = d := per
      rw [e2] at e
      have e3 : w d d = some g := e
      rw [hw] at e3
      cases e3
    · omega
  have at_next : ∀ k, k < p → bring (m + 1) s.B y p k = iter (bk s.B) (p - 1 - ((k + 1) % p) + 1) d := fun k hk => by
    unfold bring
    rw [hd]
    by_cases c : k + 1 = p
    · rw [c, Nat.mod_self]
      have e1 : p - 1 - k = 0 := by omega
      have e2 : p - 1 - 0 + 1 = p := by omega
      rw [e1, e2, per]
      rfl
    · rw [Nat.mod_eq_of_lt (by omega)]
      congr 1
      omega
  have term : ∀ k, k < p → ∃ g, w (bring (m + 1) s.B y p k) (bring (m + 1) s.B y p ((k + 1) % p)) = some g := fun k hk => by
    have hm : (k + 1) % p < p := Nat.mod_lt _ (by omega)
    obtain ⟨g, e, _⟩ := arc (p - 1 - ((k + 1) % p)) (by omega)
    refine ⟨g, ?_⟩
    rw [at_next k hk]
    unfold bring
    rw [hd]
    exact e
  refine ⟨⟨two, fun k hk => ?_, fun a b ha hb e => ?_, term⟩, ?_⟩
  · have := h.lt2 (p - 1 - k) (by omega)
    exact this
  · unfold bring at e
    rw [hd] at e
    have := inj _ _ (by omega) (by omega) e
    omega
  · let G : Nat → Int := fun k => (w (iter (bk s.B) (k + 1) d) (iter (bk s.B) k d)).getD 0
    have e1 : rsum w p (bring (m + 1) s.B y p) = sumN p G := by
      have e2 : rsum w p (bring (m + 1) s.B y p) = sumN p (fun k => (fun j => G (p - 1 - j)) ((k + 1) % p)) := sumN_congr fun k hk => by
        show (w (bring (m + 1) s.B y p k) (bring (m + 1) s.B y p ((k + 1) % p))).getD 0 = G (p - 1 - ((k + 1) % p))
        rw [at_next k hk]
        unfold bring
        rw [hd]
      rw [e2, sumN_cyc (f := fun j => G (p - 1 - j)), sumN_rev]
    rw [e1]
    -- the weights
    let M : Int := (T : Int) + 1
    let F : Nat → Int := fun k => M * s.S (iter (bk s.B) k d) - τ (iter (bk s.B) k d)
    have lt : sumN p F < sumN p (fun k => F (k + 1) + M * G k) := sumN_lt (fun k hk => by
      obtain ⟨g, e, q⟩ := arc k hk
      have hG : G k = g := by show (w _ _).getD 0 = g; rw [e]; rfl
      have t1 := i.ta (iter (bk s.B) k d)
      have t2 := i.ta (iter (bk s.B) (k + 1) d)
      show M * s.S (iter (bk s.B) k d) - τ (iter (bk s.B) k d) < M * s.S (iter (bk s.B) (k + 1) d) - τ (iter (bk s.B) (k + 1) d) + M * G k
      rw [hG]
      have M0 : 0 ≤ M := by show (0 : Int) ≤ (T : Int) + 1; omega
      rcases q with q | ⟨q, qt⟩
      · have q' : s.S (iter (bk s.B) k d) + 1 ≤ s.S (iter (bk s.B) (k + 1) d) + g := q
        have := Int.mul_le_mul_of_nonneg_left q' M0
        rw [Int.mul_add, Int.mul_add, Int.mul_one] at this
        have hM : M = (T : Int) + 1 := rfl
        omega
      · rw [q, Int.mul_add]
        omega) (by omega)
    rw [sumN_add, sumN_mul] at lt
    have cyc : sumN p (fun k => F (k + 1)) = sumN p F := by
      have a := sumN_shiftl (n := p) (f := F)
      have b : sumN (p + 1) F = sumN p F + F p := rfl
      have c : F p = F 0 := by
        show M * s.S (iter (bk s.B) p d) - τ (iter (bk s.B) p d) = M * s.S (iter (bk s.B) 0 d) - τ (iter (bk s.B) 0 d)
        rw [per]
        rfl
      omega
    rw [cyc] at lt
    have pos : 0 < M * sumN p G := by omega
    have M1 : 0 < M := by show (0 : Int) < (T : Int) + 1; omega
    by_cases c : 0 < sumN p G
    · exact c
    · have := Int.mul_le_mul_of_nonneg_left (show sumN p G ≤ 0 by omega) (Int.le_of_lt M1)
      rw [Int.mul_zero] at this
      omega
end K45
set_option linter.all false
namespace K45
/-! ### gains -/
def gn (g : Gr) (t : Nat → Int) : Gr := fun x y => if x = y then none else (g x y).map (fun e => e - t x)
def cg (n : Nat) (k : Int) (w : Gr) : Gr := fun x y => (w x y).map fun v => 1 - n * (1 - k * v)
theorem gn_self (g : Gr) (t : Nat → Int) (x : Nat) : gn g t x x = none := if_pos rfl
theorem gn_ne {g : Gr} {t : Nat → Int} {x y : Nat} (h : x ≠ y) : gn g t x y = (g x y).map (fun e => e - t x) := if_neg h
theorem cg_self {n : Nat} {k : Int} {w : Gr} (h : ∀ x, w x x = none) (x : Nat) : cg n k w x x = none := by unfold cg; rw [h]; rfl
theorem gn_some {g : Gr} {t : Nat → Int} {x y : Nat} {v : Int} (h : gn g t x y = some v) : x ≠ y ∧ g x y = some (v + t x) := by
  by_cases e : x = y
  · subst e; rw [gn_self] at h; cases h
  · rw [gn_ne e] at h
    cases q : g x y with
    | none => rw [q] at h; cases h
    | some c =>
      rw [q] at h
      have : c - t x = v := Option.some.inj h
      exact ⟨e, by rw [show c = v + t x by omega]⟩
end K45
set_option Elab.async false
set_option linter.all false
set_option maxRecDepth 100000
set_option maxHeartbeats 400000
local macro_rules
  | `(tactic| walk_at "lt") => `(tactic| first | assumption | omega)
local macro_rules
  | `(tactic| walk_at "atx") => `(tactic| first | rfl | exact K45.at_tab (by walk_at "lt"))
local macro_rules
  | `(tactic| walk_at "mulc") => `(tactic| first | (left; constructor <;> omega) | (right; constructor <;> omega))
local macro_rules
  | `(tactic| walk_at "vr") => `(tactic| first
    | exact K45.vr_add | exact K45.vr_sub | exact K45.vr_lt | exact K45.vr_le | exact K45.vr_gt | exact K45.vr_ge
    | exact K45.vr_isNi | exact K45.vr_notNi | exact K45.vr_isNn | exact K45.vr_notNn | exact K45.vr_isNr | exact K45.vr_notNr
    | exact K45.vr_xHl (by assumption) (by walk_at "lt") | exact K45.vr_xLl (by assumption) (by walk_at "lt") | exact K45.vr_xTt (by assumption) (by walk_at "lt")
    | exact K45.vr_xL (by assumption) (by walk_at "atx") | exact K45.vr_xL (L2.SqL.of (by assumption)) (by walk_at "atx") | exact K45.vr_xT (by assumption) (by walk_at "atx") | exact K45.vr_xT (L2.SqT.of (by assumption)) (by walk_at "atx")
    | exact K45.vr_eqI | exact K45.vr_neI | exact K45.vr_isN | exact K45.vr_notN
    | exact K45.vr_mul (by walk_at "mulc") | exact K45.vr_mod (by walk_at "lt") | exact K45.vr_fdv (by constructor <;> walk_at "lt")
    | exact K45.vr_eq rfl | exact K45.vr_ne rfl)
local macro_rules
  | `(tactic| walk_at "vc") => `(tactic| first
    | exact K45.vc_lenLL (by assumption) | exact K45.vc_lenTT (by assumption) | exact K45.vc_lenHl (by assumption) | exact K45.vc_lenLt (by assumption) | exact K45.vc_lenTt (by assumption)
    | exact K45.vc_lenL (by assumption) | exact K45.vc_lenT (by assumption) | exact K45.vc_lenL (L2.SqL.of (by assumption)) | exact K45.vc_abs | exact K45.vc_max2 | exact K45.vc_min2 | exact K45.vc_int | exact K45.vc_intB)
local macro_rules
  | `(tactic| walk_at "va") => `(tactic| first
    | exact K45.va_var rfl
    | exact K45.va_c
    | (refine' K45.va_LL ?h ?ha ?hx ?hy ?hi ?hj; (case ha => walk_at "va"); (case h => assumption); (case hx => walk_at "va"); (case hy => walk_at "va"); (case hi => walk_at "lt"); (case hj => walk_at "lt"))
    | (refine' K45.va_TT ?h ?ha ?hx ?hy ?hi ?hj; (case ha => walk_at "va"); (case h => assumption); (case hx => walk_at "va"); (case hy => walk_at "va"); (case hi => walk_at "lt"); (case hj => walk_at "lt"))
    | (refine' K45.va_op ?ha ?hb ?hr; (case ha => walk_at "va"); (case hb => walk_at "va"); (case hr => walk_at "vr"))
    | (refine' K45.va_cb ?hs ?hc; (case hs => walk_at "vs"); (case hc => walk_at "vc"))
    | (refine' K45.va_un ?ha; (case ha => walk_at "va")))
local macro_rules
  | `(tactic| walk_at "vs") => `(tactic| first
    | exact K45.vs_nil
    | (refine' K45.vs_cons ?ha ?hb; (case ha => walk_at "va"); (case hb => walk_at "vs")))
local macro_rules
  | `(tactic| walk_at "vt") => `(tactic| first
    | (refine' K45.vt_test ?ha; (case ha => walk_at "va"))
    | (refine' K45.vt_B ?ha; (case ha => walk_at "va"))
    | (refine' K45.vt_not ?ha; (case ha => walk_at "vt")))
namespace K45
open PySem PySem.Spec PyProof.Rows L2
abbrev s_is_integer : Stmt := topS 6
theorem sc_is_integer : FnScope ["thing"] ["thing"] (defScope s_is_integer) := ⟨rfl, rfl, rfl, by decide +kernel, rfl, by decide +kernel, by decide +kernel⟩
def t_is_integer (K : PySem.W.Frag) : TS := (tRet (tAndV (tCB (cIsi K) (tCons (tVar 0) (tCons (tC (.ty "int")) tNil))) (tNotV (tCB (cIsi K) (tCons (tVar 0) (tCons (tC (.ty "bool")) tNil))))))
theorem d_is_integer {P : Program} {w : World} {K : PySem.W.Frag} {mg : Str → Option Value} {base : Heap} (B : Bif mg)  {f : Addr} {cdv : Value} {A : Around} {outer : List Env} {s : Shared} {H : Hp} {E : XK} (hr : Room 0 (A.deeper (envOfC "is_integer" (defScope s_is_integer) s.heap.objs.size f cdv))) :
    PSs (cxOf CX0 P w K mg base ["thing"] "is_integer" (defScope s_is_integer) f cdv A outer s H E).nox (defBody s_is_integer) (t_is_integer K ) := by
  have nd := sc_is_integer.nd
  exact (pss_one (ps_ret (pe_and (pe_callB k_isi (by rfl) B.isinstance_ (by decide +kernel) (pa_cons (pv 0) (pa_cons (pe_bltn (v := .ty "int") (by rfl) B.int_ (by decide +kernel) rfl) pa_nil))) (pe_one (pe_not (pe_callB k_isi (by rfl) B.isinstance_ (by decide +kernel) (pa_cons (pv 0) (pa_cons (pe_bltn (v := .ty "bool") (by rfl) B.bool_ (by decide +kernel) rfl) pa_nil))))))))

abbrev s_is_number : Stmt := topS 7
theorem sc_is_number : FnScope ["thing"] ["thing"] (defScope s_is_number) := ⟨rfl, rfl, rfl, by decide +kernel, rfl, by decide +kernel, by decide +kernel⟩
def t_is_number (K : PySem.W.Frag) (sp_is_integer : Sp) : TS := (tRet (tAndV (tCall sp_is_integer [] E0 (tCons (tVar 0) tNil)) (tOp rGe (tVar 0) (tC (.int 0)))))
theorem d_is_number {P : Program} {w : World} {K : PySem.W.Frag} {mg : Str → Option Value} {base : Heap} (B : Bif mg) {sp_is_integer : Sp} (c_is_integer : Cal P w K mg base 1 "is_integer" ["thing"] sp_is_integer) {f : Addr} {cdv : Value} {A : Around} {outer : List Env} {s : Shared} {H : Hp} {E : XK} (hr : Room 1 (A.deeper (envOfC "is_number" (defScope s_is_number) s.heap.objs.size f cdv))) :
    PSs (cxOf CX0 P w K mg base ["thing"] "is_number" (defScope s_is_number) f cdv A outer s H E).nox (defBody s_is_number) (t_is_number K sp_is_integer) := by
  have nd := sc_is_number.nd
  exact (pss_one (ps_ret (pe_and (pe_cal c_is_integer hr (by decide) (by rfl) (pa_cons (pv 0) pa_nil)) (pe_one (pe_cmpR k_ge (pv 0) pe_int (nomark _))))))

abbrev s_is_table_door : Stmt := topS 9
theorem sc_is_table_door : FnScope ["size", "thing"] ["size", "thing"] (defScope s_is_table_door) := ⟨rfl, rfl, rfl, by decide +kernel, rfl, by decide +kernel, by decide +kernel⟩
def t_is_table_door (K : PySem.W.Frag) (sp_is_number : Sp) : TS := (tRet (tAndV (tCall sp_is_number [] E0 (tCons (tVar 1) tNil)) (tOp rLt (tVar 1) (tVar 0))))
theorem d_is_table_door {P : Program} {w : World} {K : PySem.W.Frag} {mg : Str → Option Value} {base : Heap} (B : Bif mg) {sp_is_number : Sp} (c_is_number : Cal P w K mg base 2 "is_number" ["thing"] sp_is_number) {f : Addr} {cdv : Value} {A : Around} {outer : List Env} {s : Shared} {H : Hp} {E : XK} (hr : Room 2 (A.deeper (envOfC "is_table_door" (defScope s_is_table_door) s.heap.objs.size f cdv))) :
    PSs (cxOf CX0 P w K mg base ["size", "thing"] "is_table_door" (defScope s_is_table_door) f cdv A outer s H E).nox (defBody s_is_table_door) (t_is_table_door K sp_is_number) := by
  have nd := sc_is_table_door.nd
  exact (pss_one (ps_ret (pe_and (pe_cal c_is_number hr (by decide) (by rfl) (pa_cons (pv 1) pa_nil)) (pe_one (pe_cmpR k_lt (pv 1) (pv 0) (nomark _))))))

abbrev s_need_table_waits : Stmt := topS 10
theorem sc_need_table_waits : FnScope ["size", "waits", "wait"] ["size", "waits"] (defScope s_need_table_waits) := ⟨rfl, rfl, rfl, by decide +kernel, rfl, by decide +kernel, by decide +kernel⟩
def t_need_table_waits (K : PySem.W.Frag) (sp_is_number : Sp) : TS := (tIfS (tOr (tNot (tB (tCB (cIsi K) (tCons (tVar 1) (tCons (tC (.ty "tuple")) tNil))))) (tOr (tTest (tOp rNe (tCB (cLen K) (tCons (tVar 1) tNil)) (tVar 0))) (tNot (tB (tCB (rAll K) (tCons (tLc (iTup K (tVar 1)) (gName 2) tYes (tCall sp_is_number [] E0 (tCons (tVar 2) tNil)) [2]) tNil)))))) tNever tNext)
theorem d_need_table_waits {P : Program} {w : World} {K : PySem.W.Frag} {mg : Str → Option Value} {base : Heap} (B : Bif mg) {sp_is_number : Sp} (c_is_number : Cal P w K mg base 2 "is_number" ["thing"] sp_is_number) {f : Addr} {cdv : Value} {A : Around} {outer : List Env} {s : Shared} {H : Hp} {E : XK} (hr : Room 2 (A.deeper (envOfC "need_table_waits" (defScope s_need_table_waits) s.heap.objs.size f cdv))) :
    PSs (cxOf CX0 P w K mg base ["size", "waits", "wait"] "need_table_waits" (defScope s_need_table_waits) f cdv A outer s H E).nox (defBody s_need_table_waits) (t_need_table_waits K sp_is_number) := by
  have nd := sc_need_table_waits.nd
  exact (pss_one (ps_if (PW.pt (pw_or (pt_not (pt_val (pe_callB k_isi (by rfl) B.isinstance_ (by decide +kernel) (pa_cons (pv 1) (pa_cons (pe_bltn (v := .ty "tuple") (by rfl) B.tuple_ (by decide +kernel) rfl) pa_nil))))) (pw_or (pt_cmpR op_ne (pe_callB k_len (by rfl) B.len_ (by decide +kernel) (pa_cons (pv 1) pa_nil)) (pv 0) (nomark _)) (pw_or1 (pt_not (pt_val (pe_callB (cr_all rfl) (by rfl) B.all_ (by decide +kernel) (pa_cons (pe_lc (own := [("wait", 2)]) rfl nd (pi_tup (pv 1)) (blkOk_by (own := [("wait", 2)]) (by kernel_rfl)) (fun _ _ _ _ _ => (pg_name (i := 2) nd rfl (Or.inl rfl))) (fun _ _ _ _ _ => pts_nil) (fun _ _ _ _ _ => (pe_cal c_is_number hr (by decide) (by rfl) (pa_cons (pv 2) pa_nil)))) pa_nil)))))))) (pss_one ps_never) pss_nil))

abbrev s_need_table_grain : Stmt := topS 11
theorem sc_need_table_grain : FnScope ["grain"] ["grain"] (defScope s_need_table_grain) := ⟨rfl, rfl, rfl, by decide +kernel, rfl, by decide +kernel, by decide +kernel⟩
def t_need_table_grain (K : PySem.W.Frag) (sp_is_number : Sp) : TS := (tIfS (tOr (tNot (tB (tCall sp_is_number [] E0 (tCons (tVar 0) tNil)))) (tTest (tOp rLt (tVar 0) (tC (.int 1))))) tNever tNext)
theorem d_need_table_grain {P : Program} {w : World} {K : PySem.W.Frag} {mg : Str → Option Value} {base : Heap} (B : Bif mg) {sp_is_number : Sp} (c_is_number : Cal P w K mg base 2 "is_number" ["thing"] sp_is_number) {f : Addr} {cdv : Value} {A : Around} {outer : List Env} {s : Shared} {H : Hp} {E : XK} (hr : Room 2 (A.deeper (envOfC "need_table_grain" (defScope s_need_table_grain) s.heap.objs.size f cdv))) :
    PSs (cxOf CX0 P w K mg base ["grain"] "need_table_grain" (defScope s_need_table_grain) f cdv A outer s H E).nox (defBody s_need_table_grain) (t_need_table_grain K sp_is_number) := by
  have nd := sc_need_table_grain.nd
  exact (pss_one (ps_if (PW.pt (pw_or (pt_not (pt_val (pe_cal c_is_number hr (by decide) (by rfl) (pa_cons (pv 0) pa_nil)))) (pw_or1 (pt_cmpR k_lt (pv 0) pe_int (nomark _))))) (pss_one ps_never) pss_nil))

abbrev s_need_table_door : Stmt := topS 12
theorem sc_need_table_door : FnScope ["size", "door"] ["size", "door"] (defScope s_need_table_door) := ⟨rfl, rfl, rfl, by decide +kernel, rfl, by decide +kernel, by decide +kernel⟩
def t_need_table_door (K : PySem.W.Frag) (sp_is_table_door : Sp) : TS := (tIfS (tNot (tB (tCall sp_is_table_door [] E0 (tCons (tVar 0) (tCons (tVar 1) tNil))))) tNever tNext)
theorem d_need_table_door {P : Program} {w : World} {K : PySem.W.Frag} {mg : Str → Option Value} {base : Heap} (B : Bif mg) {sp_is_table_door : Sp} (c_is_table_door : Cal P w K mg base 3 "is_table_door" ["size", "thing"] sp_is_table_door) {f : Addr} {cdv : Value} {A : Around} {outer : List Env} {s : Shared} {H : Hp} {E : XK} (hr : Room 3 (A.deeper (envOfC "need_table_door" (defScope s_need_table_door) s.heap.objs.size f cdv))) :
    PSs (cxOf CX0 P w K mg base ["size", "door"] "need_table_door" (defScope s_need_table_door) f cdv A outer s H E).nox (defBody s_need_table_door) (t_need_table_door K sp_is_table_door) := by
  have nd := sc_need_table_door.nd
  exact (pss_one (ps_if (pt_not (pt_val (pe_cal c_is_table_door hr (by decide) (by rfl) (pa_cons (pv 0) (pa_cons (pv 1) pa_nil))))) (pss_one ps_never) pss_nil))

abbrev s_need_table_pair : Stmt := topS 13
theorem sc_need_table_pair : FnScope ["size", "door", "other"] ["size", "door", "other"] (defScope s_need_table_pair) := ⟨rfl, rfl, rfl, by decide +kernel, rfl, by decide +kernel, by decide +kernel⟩
def t_need_table_pair (K : PySem.W.Frag) (sp_need_table_door sp_is_table_door : Sp) : TS := (tSeq (tDrop (tCall sp_need_table_door [] E0 (tCons (tVar 0) (tCons (tVar 1) tNil))))
    (tIfS (tOr (tNot (tB (tCall sp_is_table_door [] E0 (tCons (tVar 0) (tCons (tVar 2) tNil))))) (tTest (tOp rEq (tVar 2) (tVar 1)))) tNever tNext))
theorem d_need_table_pair {P : Program} {w : World} {K : PySem.W.Frag} {mg : Str → Option Value} {base : Heap} (B : Bif mg) {sp_need_table_door sp_is_table_door : Sp} (c_need_table_door : Cal P w K mg base 4 "need_table_door" ["size", "door"] sp_need_table_door) (c_is_table_door : Cal P w K mg base 3 "is_table_door" ["size", "thing"] sp_is_table_door) {f : Addr} {cdv : Value} {A : Around} {outer : List Env} {s : Shared} {H : Hp} {E : XK} (hr : Room 4 (A.deeper (envOfC "need_table_pair" (defScope s_need_table_pair) s.heap.objs.size f cdv))) :
    PSs (cxOf CX0 P w K mg base ["size", "door", "other"] "need_table_pair" (defScope s_need_table_pair) f cdv A outer s H E).nox (defBody s_need_table_pair) (t_need_table_pair K sp_need_table_door sp_is_table_door) := by
  have nd := sc_need_table_pair.nd
  exact (pss_cons (ps_expr (pe_cal c_need_table_door hr (by decide) (by rfl) (pa_cons (pv 0) (pa_cons (pv 1) pa_nil))))
      (pss_one (ps_if (PW.pt (pw_or (pt_not (pt_val (pe_cal c_is_table_door hr (by decide) (by rfl) (pa_cons (pv 0) (pa_cons (pv 2) pa_nil))))) (pw_or1 (pt_cmpR op_eq (pv 2) (pv 1) (nomark _))))) (pss_one ps_never) pss_nil)))

section
variable {P : Program} {w : World} {K : PySem.W.Frag} {mg : Str → Option Value} {base : Heap}
/-! ### is_integer, is_number, the checks -/
def spIsInteger : Sp := fun vs H Q _ => ∃ i : Int, vs = [.int i] ∧ Q (.bl true) H
theorem cal_is_integer (T : Txt K mg) : Cal P w K mg base 1 "is_integer" ["thing"] spIsInteger := by
  refine T.is_integer.cal sc_is_integer (fun vs H Q E h => ?_) (fun f cdv A outer s H vs Q E hr h => ⟨_, d_is_integer T.B hr, ?_⟩)
  · obtain ⟨i, rfl, _⟩ := h; rfl
  obtain ⟨i, rfl, q⟩ := h
  refine st_ret (v := .bl true) ?_ q
  exact va_is (va_and (a := true) (va_cb (by walk_at "vs") (vc_isi (.intI i))) fun _ => va_not (va_cb (by walk_at "vs") (vc_isi (.intB i)))) rfl
def spIsNumber : Sp := fun vs H Q _ => ∃ i : Int, vs = [.int i] ∧ Q (.bl (decide (0 ≤ i))) H
theorem cal_is_number (T : Txt K mg) : Cal P w K mg base 2 "is_number" ["thing"] spIsNumber := by
  refine T.is_number.cal sc_is_number (fun vs H Q E h => ?_) (fun f cdv A outer s H vs Q E hr h => ⟨_, d_is_number T.B (cal_is_integer T) hr, ?_⟩)
  · obtain ⟨i, rfl, _⟩ := h; rfl
  obtain ⟨i, rfl, q⟩ := h
  refine st_ret (v := .bl (decide (0 ≤ i))) ?_ q
  exact va_and (a := true) (va_call (by walk_at "vs") fun Q E q => ⟨i, rfl, q⟩) fun _ => by walk_at "va"
def spIsTableDoor : Sp := fun vs H Q _ => ∃ n i : Int, vs = [.int n, .int i] ∧ 0 ≤ i ∧ i < n ∧ Q (.bl true) H
theorem cal_is_table_door (T : Txt K mg) : Cal P w K mg base 3 "is_table_door" ["size", "thing"] spIsTableDoor := by
  refine T.is_table_door.cal sc_is_table_door (fun vs H Q E h => ?_) (fun f cdv A outer s H vs Q E hr h => ⟨_, d_is_table_door T.B (cal_is_number T) hr, ?_⟩)
  · obtain ⟨n, i, rfl, _⟩ := h; rfl
  obtain ⟨n, i, rfl, h0, h1, q⟩ := h
  refine st_ret (v := .bl true) ?_ q
  exact va_is (va_and (a := true) (va_call (by walk_at "vs") fun Q E q => ⟨i, rfl, by rw [decide_eq_true h0]; exact q⟩) fun _ => by walk_at "va") (by rw [decide_eq_true h1]; rfl)
/-- waits: a tuple of numbers -/
def spNeedWaits (K : PySem.W.Frag) : Sp := fun vs H Q _ => ∃ (n : Nat) (a : Addr) (t : Nat → Int), vs = [.int (n : Int), .ref a] ∧ SqT K H a (tab n fun i => .int (t i)) ∧ n ≤ 1000 ∧ (∀ i, i < n → 0 ≤ t i) ∧ Ret (fun v _ => v = .non) H Q
theorem cal_need_table_waits (T : Txt K mg) : Cal P w K mg base 3 "need_table_waits" ["size", "waits"] (spNeedWaits K) := by
  refine T.need_table_waits.cal sc_need_table_waits (fun vs H Q E h => ?_) (fun f cdv A outer s H vs Q E hr h => ⟨_, d_need_table_waits T.B (cal_is_number T) hr, ?_⟩)
  · obtain ⟨n, a, t, rfl, _⟩ := h; rfl
  obtain ⟨n, a, t, rfl, ht, hn, h0, q⟩ := h
  refine st_ifFA (at_is (at_or (a := false) (at_vt (vt_is (vt_not (vt_B (va_cb (by walk_at "vs") (vc_isi (.tup a _ ht))))) rfl)) fun _ H1 S1 => at_or (a := false) (at_vt (vt_is (vt_test (va_op (va_cb (by walk_at "vs") (vc_lenTt (S1.t ht))) (va_var rfl) vr_neI)) (by simp))) fun _ H2 S2 => at_not (at_B (b := true) ?_)) rfl) (fun H1 S1 => q .non H1 S1 rfl)
  refine (al_all (al_lcV (fun i => .bl (decide (0 ≤ t i))) (src_T (va_var rfl) ((S1.trans S2).t ht)) (fun i => rfl) (by omega) fun i H3 hi S3 => al_va (va_call (by walk_at "vs") fun Q E q => ⟨t i, rfl, q⟩))).imp fun v H3 _ e => ?_
  rw [e, all_true fun i hi => decide_eq_true (h0 i hi)]
def spNeedGrain : Sp := fun vs H Q _ => ∃ i : Int, vs = [.int i] ∧ 1 ≤ i ∧ Q .non H
theorem cal_need_table_grain (T : Txt K mg) : Cal P w K mg base 3 "need_table_grain" ["grain"] spNeedGrain := by
  refine T.need_table_grain.cal sc_need_table_grain (fun vs H Q E h => ?_) (fun f cdv A outer s H vs Q E hr h => ⟨_, d_need_table_grain T.B (cal_is_number T) hr, ?_⟩)
  · obtain ⟨i, rfl, _⟩ := h; rfl
  obtain ⟨i, rfl, h1, q⟩ := h
  exact st_ifF (vt_is (vt_or (a := false) (vt_is (vt_not (vt_B (va_call (by walk_at "vs") fun Q E q => ⟨i, rfl, q⟩))) (by rw [decide_eq_true (by omega)]; rfl)) fun _ => vt_test (by walk_at "va")) (by rw [decide_eq_false (by omega)]; rfl)) q
def spNeedDoor : Sp := fun vs H Q _ => ∃ n i : Int, vs = [.int n, .int i] ∧ 0 ≤ i ∧ i < n ∧ Q .non H
theorem cal_need_table_door (T : Txt K mg) : Cal P w K mg base 4 "need_table_door" ["size", "door"] spNeedDoor := by
  refine T.need_table_door.cal sc_need_table_door (fun vs H Q E h => ?_) (fun f cdv A outer s H vs Q E hr h => ⟨_, d_need_table_door T.B (cal_is_table_door T) hr, ?_⟩)
  · obtain ⟨n, i, rfl, _⟩ := h; rfl
  obtain ⟨n, i, rfl, h0, h1, q⟩ := h
  exact st_ifF (vt_is (vt_not (vt_B (va_call (by walk_at "vs") fun Q E q => ⟨n, i, rfl, h0, h1, q⟩))) rfl) q
def spNeedPair : Sp := fun vs H Q _ => ∃ n i j : Int, vs = [.int n, .int i, .int j] ∧ 0 ≤ i ∧ i < n ∧ 0 ≤ j ∧ j < n ∧ j ≠ i ∧ Q .non H
theorem cal_need_table_pair (T : Txt K mg) : Cal P w K mg base 5 "need_table_pair" ["size", "door", "other"] spNeedPair := by
  refine T.need_table_pair.cal sc_need_table_pair (fun vs H Q E h => ?_) (fun f cdv A outer s H vs Q E hr h => ⟨_, d_need_table_pair T.B (cal_need_table_door T) (cal_is_table_door T) hr, ?_⟩)
  · obtain ⟨n, i, j, rfl, _⟩ := h; rfl
  obtain ⟨n, i, j, rfl, h0, h1, h2, h3, h4, q⟩ := h
  unfold t_need_table_pair
  refine q_drop (va_call (z := .non) (by walk_at "vs") fun Q E q => ⟨n, i, rfl, h0, h1, q⟩) ?_
  exact st_ifF (vt_is (vt_or (a := false) (vt_is (vt_not (vt_B (va_call (by walk_at "vs") fun Q E q => ⟨n, j, rfl, h2, h3, q⟩))) rfl) fun _ => vt_test (by walk_at "va")) (by rw [decide_eq_false h4]; rfl)) q
end
end K45
set_option Elab.async false
set_option linter.all false
set_option maxRecDepth 100000
set_option maxHeartbeats 400000
namespace K45
open PySem PySem.Spec PyProof.Rows L2
abbrev s_step_gains : Stmt := topS 14
theorem sc_step_gains : FnScope ["table", "waits", "size", "x", "y"] ["table", "waits"] (defScope s_step_gains) := ⟨rfl, rfl, rfl, by decide +kernel, rfl, by decide +kernel, by decide +kernel⟩
def t_step_gains (K : PySem.W.Frag) : TS := (tSeq (tAsg (tCB (cLen K) (tCons (tVar 0) tNil)) (gName 2))
    (tRet (tLc (iRng1 (tCons (tVar 2) tNil)) (gName 3) tYes (tLc (iRng1 (tCons (tVar 2) tNil)) (gName 4) tYes (tIf (tOr (tTest (tOp rEq (tVar 3) (tVar 4))) (tTest (tOp kIsN (tOp (rIx K) (tOp (rIx K) (tVar 0) (tVar 3)) (tVar 4)) (tC .non)))) (tC .non) (tOp rSub (tOp (rIx K) (tOp (rIx K) (tVar 0) (tVar 3)) (tVar 4)) (tOp (rIx K) (tVar 1) (tVar 3)))) [4]) [3])))
theorem d_step_gains {P : Program} {w : World} {K : PySem.W.Frag} {mg : Str → Option Value} {base : Heap} (B : Bif mg)  {f : Addr} {cdv : Value} {A : Around} {outer : List Env} {s : Shared} {H : Hp} {E : XK} (hr : Room 0 (A.deeper (envOfC "step_gains" (defScope s_step_gains) s.heap.objs.size f cdv))) :
    PSs (cxOf CX0 P w K mg base ["table", "waits", "size", "x", "y"] "step_gains" (defScope s_step_gains) f cdv A outer s H E).nox (defBody s_step_gains) (t_step_gains K ) := by
  have nd := sc_step_gains.nd
  exact (pss_cons (ps_set (i := 2) nd rfl (Or.inr rfl) (pe_callB k_len (by rfl) B.len_ (by decide +kernel) (pa_cons (pv 0) pa_nil)))
      (pss_one (ps_ret (pe_lc (own := [("x", 3)]) rfl nd (pi_range1 (by rfl) B.range_ (pa_cons (pv 2) pa_nil)) (blkOk_by (own := [("x", 3)]) (by kernel_rfl)) (fun _ _ _ _ _ => (pg_name (i := 3) nd rfl (Or.inr rfl))) (fun _ _ _ _ _ => pts_nil) (fun _ _ _ _ _ => (pe_lc (own := [("y", 4)]) rfl nd (pi_range1 (by rfl) B.range_ (pa_cons (pv 2) pa_nil)) (blkOk_by (own := [("y", 4)]) (by kernel_rfl)) (fun _ _ _ _ _ => (pg_name (i := 4) nd rfl (Or.inl rfl))) (fun _ _ _ _ _ => pts_nil) (fun _ _ _ _ _ => (pe_ifExp (PW.pt (pw_or (pt_cmpR op_eq (pv 3) (pv 4) (nomark _)) (pw_or1 (pt_cmpR k_isN (pe_ix ix_seq (pe_ix ix_seq (pv 0) (pv 3) (fun _ _ => rfl)) (pv 4) (fun _ _ => rfl)) pe_non (nomark _))))) pe_non (pe_op k_sub (pe_ix ix_seq (pe_ix ix_seq (pv 0) (pv 3) (fun _ _ => rfl)) (pv 4) (fun _ _ => rfl)) (pe_ix ix_seq (pv 1) (pv 3) (fun _ _ => rfl)))))))))))

section
variable {P : Program} {w : World} {K : PySem.W.Frag} {mg : Str → Option Value} {base : Heap}
abbrev IsLL (K : PySem.W.Frag) (n m : Nat) (F : Nat → Nat → V) : V → Hp → Prop := fun v H' => ∃ p, v = .ref p ∧ LL K H' p n m F
abbrev oI (w : Gr) : Nat → Nat → V := fun x y => oV (w x y)
theorem news_ll {H : Hp} {n m : Nat} {F : Nat → Nat → V} {v : V} {H' : Hp} (h : IsNews H n (fun i => .lst (tab m (F i))) v H') : IsLL K n m F v H' := by
  obtain ⟨p, ad, e, _, _, M⟩ := news_mm h
  exact ⟨p, e, M.ll⟩
def spStepGains (K : PySem.W.Frag) : Sp := fun vs H Q _ => ∃ (n : Nat) (a b : Addr) (g : Gr) (t : Nat → Int), vs = [.ref a, .ref b] ∧ TR K H a n n (oI g) ∧ SqT K H b (tab n fun i => .int (t i)) ∧ n ≤ 1000 ∧ Ret (IsLL K n n (oI (gn g t))) H Q
theorem cal_step_gains (T : Txt K mg) : Cal P w K mg base 1 "step_gains" ["table", "waits"] (spStepGains K) := by
  refine T.step_gains.cal sc_step_gains (fun vs H Q E h => ?_) (fun f cdv A outer s H vs Q E hr h => ⟨_, d_step_gains T.B hr, ?_⟩)
  · obtain ⟨n, a, b, g, t, rfl, _⟩ := h; rfl
  obtain ⟨n, a, b, g, t, rfl, hg, ht, hn, q⟩ := h
  unfold t_step_gains
  refine q_asg (v := .int (n : Int)) (by walk_at "va") ?_
  refine st_retA (al_lcN (fun x => .lst (tab n fun y => oV (gn g t x y))) (src_R (n := n) (by walk_at "vs") (by omega)) (fun _ => rfl) (by omega) fun x H1 hx S1 => ?_) fun v H1 S1 p => q v H1 S1 (news_ll p)
  refine al_lcV (fun y => oV (gn g t x y)) (src_R (n := n) (by walk_at "vs") (by omega)) (fun _ => rfl) (by omega) fun y H2 hy S2 => al_va ?_
  have hg2 := (S1.trans S2).tt hg
  have ht2 := (S1.trans S2).t ht
  refine va_if (b := decide ((x : Int) = (y : Int)) || decide (oV (g x y) = .non)) (vt_or (vt_test (by walk_at "va")) fun _ => vt_test (va_op (va_TT hg2 (va_var rfl) (va_var rfl) (va_var rfl) hx hy) va_c vr_isN)) (fun hb => ?_) (fun hb => ?_)
  · refine va_is va_c ?_
    rcases Bool.or_eq_true _ _ ▸ hb with h | h
    · have e : x = y := by have := of_decide_eq_true h; omega
      subst e
      rw [gn_self]; rfl
    · by_cases e : x = y
      · subst e; rw [gn_self]; rfl
      · rw [gn_ne e]
        cases c : g x y with
        | none => rfl
        | some z => rw [c] at h; exact absurd (of_decide_eq_true h) (by intro z; cases z)
  · obtain ⟨h1, h2⟩ := Bool.or_eq_false_iff.mp hb
    have e : x ≠ y := fun z => by subst z; simp at h1
    cases c : g x y with
    | none => rw [c] at h2; simp [oV] at h2
    | some z =>
      refine va_is (va_op (va_is (va_TT hg2 (va_var rfl) (va_var rfl) (va_var rfl) hx hy) (oV_some c)) (va_op (va_var rfl) (va_var rfl) (vr_xTt ht2 hx)) vr_sub) ?_
      rw [gn_ne e, c]; rfl
end
end K45
set_option Elab.async false
set_option linter.all false
set_option maxRecDepth 100000
set_option maxHeartbeats 200000
namespace K45
open PySem PySem.Spec PyProof.Rows L2
abbrev s_coarse_gains : Stmt := topS 15
theorem sc_coarse_gains : FnScope ["table", "grain", "waits", "size", "gains", "row", "gain"] ["table", "grain", "waits"] (defScope s_coarse_gains) := ⟨rfl, rfl, rfl, by decide +kernel, rfl, by decide +kernel, by decide +kernel⟩
def t_coarse_gains (K : PySem.W.Frag) (sp_step_gains : Sp) : TS := (tSeq (tAsg (tCB (cLen K) (tCons (tVar 0) tNil)) (gName 3))
    (tSeq (tAsg (tCall sp_step_gains [] E0 (tCons (tVar 0) (tCons (tVar 2) tNil))) (gName 4))
    (tRet (tLc (iList K (tVar 4)) (gName 5) tYes (tLc (iList K (tVar 5)) (gName 6) tYes (tIf (tTest (tOp kIsN (tVar 6) (tC .non))) (tC .non) (tOp rSub (tC (.int 1)) (tOp rMul (tVar 3) (tOp rSub (tC (.int 1)) (tOp rMul (tVar 1) (tVar 6)))))) [6]) [5]))))
theorem d_coarse_gains {P : Program} {w : World} {K : PySem.W.Frag} {mg : Str → Option Value} {base : Heap} (B : Bif mg) {sp_step_gains : Sp} (c_step_gains : Cal P w K mg base 1 "step_gains" ["table", "waits"] sp_step_gains) {f : Addr} {cdv : Value} {A : Around} {outer : List Env} {s : Shared} {H : Hp} {E : XK} (hr : Room 1 (A.deeper (envOfC "coarse_gains" (defScope s_coarse_gains) s.heap.objs.size f cdv))) :
    PSs (cxOf CX0 P w K mg base ["table", "grain", "waits", "size", "gains", "row", "gain"] "coarse_gains" (defScope s_coarse_gains) f cdv A outer s H E).nox (defBody s_coarse_gains) (t_coarse_gains K sp_step_gains) := by
  have nd := sc_coarse_gains.nd
  exact (pss_cons (ps_set (i := 3) nd rfl (Or.inr rfl) (pe_callB k_len (by rfl) B.len_ (by decide +kernel) (pa_cons (pv 0) pa_nil)))
      (pss_cons (ps_set (i := 4) nd rfl (Or.inl rfl) (pe_cal c_step_gains hr (by decide) (by rfl) (pa_cons (pv 0) (pa_cons (pv 2) pa_nil))))
      (pss_one (ps_ret (pe_lc (own := [("row", 5)]) rfl nd (pi_list (pv 4)) (blkOk_by (own := [("row", 5)]) (by kernel_rfl)) (fun _ _ _ _ _ => (pg_name (i := 5) nd rfl (Or.inl rfl))) (fun _ _ _ _ _ => pts_nil) (fun _ _ _ _ _ => (pe_lc (own := [("gain", 6)]) rfl nd (pi_list (pv 5)) (blkOk_by (own := [("gain", 6)]) (by kernel_rfl)) (fun _ _ _ _ _ => (pg_name (i := 6) nd rfl (Or.inl rfl))) (fun _ _ _ _ _ => pts_nil) (fun _ _ _ _ _ => (pe_ifExp (pt_cmpR k_isN (pv 6) pe_non (nomark _)) pe_non (pe_op k_sub pe_int (pe_op k_mul (pv 3) (pe_op k_sub pe_int (pe_op k_mul (pv 1) (pv 6))))))))))))))

abbrev s_ring_behind : Stmt := topS 17
theorem sc_ring_behind : FnScope ["before", "door", "_", "ring", "earlier"] ["before", "door"] (defScope s_ring_behind) := ⟨rfl, rfl, rfl, by decide +kernel, rfl, by decide +kernel, by decide +kernel⟩
def t_ring_behind (K : PySem.W.Frag) : TS := (tSeq (tFor (iRng1 (tCons (tCB (cLen K) (tCons (tVar 0) tNil)) tNil)) (gName 2) (tAsg (tOp (rIx K) (tVar 0) (tVar 1)) (gName 1)))
    (tSeq (tAsg (tLst (tCons (tVar 1) tNil)) (gName 3))
    (tSeq (tAsg (tOp (rIx K) (tVar 0) (tVar 1)) (gName 4))
    (tSeq (tWhile (tTest (tOp rNe (tVar 4) (tVar 1))) (tSeq (tDrop (tBM K "list" rAppend (tVar 3) (tCons (tVar 4) tNil)))
    (tAsg (tOp (rIx K) (tVar 0) (tVar 4)) (gName 4))))
    (tSeq (tDrop (tBM0 K "list" rReverse (tVar 3)))
    (tRet (tCB (cTupZ K) (tCons (tVar 3) tNil))))))))
theorem d_ring_behind {P : Program} {w : World} {K : PySem.W.Frag} {mg : Str → Option Value} {base : Heap} (B : Bif mg)  {f : Addr} {cdv : Value} {A : Around} {outer : List Env} {s : Shared} {H : Hp} {E : XK} (hr : Room 0 (A.deeper (envOfC "ring_behind" (defScope s_ring_behind) s.heap.objs.size f cdv))) :
    PSs (cxOf CX0 P w K mg base ["before", "door", "_", "ring", "earlier"] "ring_behind" (defScope s_ring_behind) f cdv A outer s H E).nox (defBody s_ring_behind) (t_ring_behind K ) := by
  have nd := sc_ring_behind.nd
  exact (pss_cons (ps_for PassesOwn.never rfl (pi_range1 (by rfl) B.range_ (pa_cons (pe_callB k_len (by rfl) B.len_ (by decide +kernel) (pa_cons (pv 0) pa_nil)) pa_nil)) (pg_name (i := 2) nd rfl (Or.inl rfl)) (pss_one (ps_set (i := 1) nd rfl (Or.inl rfl) (pe_ix ix_seq (pv 0) (pv 1) (fun _ _ => rfl)))))
      (pss_cons (ps_set (i := 3) nd rfl (Or.inl rfl) (pe_lst (pa_cons (pv 1) pa_nil)))
      (pss_cons (ps_set (i := 4) nd rfl (Or.inl rfl) (pe_ix ix_seq (pv 0) (pv 1) (fun _ _ => rfl)))
      (pss_cons (ps_while PassesOwn.never (pt_cmpR op_ne (pv 4) (pv 1) (nomark _)) (pss_cons (ps_expr (pe_bm PySem.F.plainAttrs_list PySem.F.slot_list_append PySem.F.type_list_append mt_append (pv 3) (pa_cons (pv 4) pa_nil)))
      (pss_one (ps_set (i := 4) nd rfl (Or.inl rfl) (pe_ix ix_seq (pv 0) (pv 4) (fun _ _ => rfl))))))
      (pss_cons (ps_expr (pe_bm0 PySem.F.plainAttrs_list PySem.F.slot_list_reverse PySem.F.type_list_reverse mt_reverse (pv 3)))
      (pss_one (ps_ret (pe_callTy k_tupleZ (by rfl) B.tuple_ (by decide +kernel) (pa_cons (pv 3) pa_nil)))))))))

section
variable {P : Program} {w : World} {K : PySem.W.Frag} {mg : Str → Option Value} {base : Heap}
def spCoarse (K : PySem.W.Frag) : Sp := fun vs H Q _ => ∃ (n : Nat) (a b : Addr) (g : Gr) (t : Nat → Int) (k : Int), vs = [.ref a, .int k, .ref b] ∧ TR K H a n n (oI g) ∧ SqT K H b (tab n fun i => .int (t i)) ∧ n ≤ 1000 ∧ 0 ≤ k ∧ k ≤ 1000 ∧ Ret (IsLL K n n (oI (cg n k (gn g t)))) H Q
theorem cal_coarse_gains (T : Txt K mg) : Cal P w K mg base 2 "coarse_gains" ["table", "grain", "waits"] (spCoarse K) := by
  refine T.coarse_gains.cal sc_coarse_gains (fun vs H Q E h => ?_) (fun f cdv A outer s H vs Q E hr h => ⟨_, d_coarse_gains T.B (cal_step_gains T) hr, ?_⟩)
  · obtain ⟨n, a, b, g, t, k, rfl, _⟩ := h; rfl
  obtain ⟨n, a, b, g, t, k, rfl, hg, ht, hn, hk0, hk1, q⟩ := h
  unfold t_coarse_gains
  refine q_asg (v := .int (n : Int)) (by walk_at "va") ?_
  refine q_asgA (al_call (P := IsLL K n n (oI (gn g t))) (by walk_at "vs") fun Q E r => ⟨n, a, b, g, t, rfl, hg, ht, hn, r⟩) fun v H1 S1 p1 => ?_
  obtain ⟨G, rfl, ad, hG, hR⟩ := p1
  refine st_retA (al_lcN (fun x => .lst (tab n fun y => oV (cg n k (gn g t) x y))) (src_L (n := n) (f := fun x => .ref (ad x)) (va_var rfl) hG) (fun _ => rfl) (by omega) fun x H2 hx S2 => ?_) fun v H2 S2 p => q v H2 (S1.trans S2) (news_ll p)
  refine al_lcV (fun y => oV (cg n k (gn g t) x y)) (src_L (n := n) (f := fun y => oV (gn g t x y)) (va_var rfl) (S2.l (hR x hx))) (fun _ => rfl) (by omega) fun y H3 hy S3 => al_va ?_
  cases c : gn g t x y with
  | none => exact va_if (b := true) (vt_test (va_is (va_op (va_var (v := .non) rfl) va_c vr_isNn) rfl)) (fun _ => va_is va_c (by unfold cg; rw [c]; rfl)) fun z => absurd z (by decide)
  | some v =>
    refine va_if (b := false) (vt_test (va_op (va_var (v := .int v) rfl) va_c vr_isNi)) (fun z => absurd z (by decide)) fun _ => ?_
    refine va_is (va_op va_c (va_op (va_var rfl) (va_op va_c (va_op (va_var rfl) (va_var (v := .int v) rfl) (vr_mul (.inl ⟨by omega, by omega⟩))) vr_sub) (vr_mul (.inl ⟨by omega, by omega⟩))) vr_sub) ?_
    unfold cg; rw [c]; rfl
/-! ### ring_behind, greatest_sums -/
abbrev IsTupInt (K : PySem.W.Frag) (n : Nat) (f : Nat → Nat) : V → Hp → Prop := fun v H' => ∃ p, v = .ref p ∧ PT H' p (tab n fun i => .int (f i : Int))
def spBehind (K : PySem.W.Frag) : Sp := fun vs H Q _ => ∃ (n : Nat) (a : Addr) (B : Nat → Option Nat) (y p : Nat), vs = [.ref a, .int (y : Int)] ∧ SqL K H a (tab n fun i => oN (B i)) ∧ n ≤ 1000 ∧ Behind n B y p ∧ Ret (IsTupInt K p (bring n B y p)) H Q
theorem cal_ring_behind (T : Txt K mg) : Cal P w K mg base 1 "ring_behind" ["before", "door"] (spBehind K) := by
  refine T.ring_behind.cal sc_ring_behind (fun vs H Q E h => ?_) (fun f cdv A outer s H vs Q E hr h => ⟨_, d_ring_behind T.B hr, ?_⟩)
  · obtain ⟨n, a, B, y, p, rfl, _⟩ := h; rfl
  obtain ⟨n, a, B, y, p, rfl, hB, hn, hb, q⟩ := h
  unfold t_ring_behind
  refine q_forR (n := n) (by walk_at "vs") (by omega) (fun i σ' H' => ∃ v2, σ' = [some (.ref a), some (.int (iter (bk B) i y : Nat)), v2, none, none] ∧ H = H') ⟨none, rfl, rfl⟩ (fun i σ' H' hi ⟨v2, e1, e2⟩ => ?_) (fun σ' H' ⟨v2, e1, e2⟩ => ?_)
  · subst e1 e2
    exact st_asg (va_is (va_op (va_var rfl) (va_var rfl) (vr_xLl hB (hb.lt1 i (by omega)))) (oN_some (hb.def1 i hi))) ⟨_, rfl, rfl⟩
  subst e1 e2
  generalize hd : iter (bk B) n y = d at *
  have d2 : ∀ k, k < p → B (iter (bk B) k d) = some (iter (bk B) (k + 1) d) := fun k hk => by have := hb.def2 k hk; rw [hd] at this; exact this
  have l2 : ∀ k, k ≤ p → iter (bk B) k d < n := fun k hk => by have := hb.lt2 k hk; rw [hd] at this; exact this
  refine q_asgA (al_lst (vs := [.int (d : Int)]) (by walk_at "vs")) fun v H1 S1 ⟨r, ev, nr, hr⟩ => ?_
  subst ev
  refine q_asg (va_is (va_op (va_var rfl) (va_var rfl) (vr_xLl (S1.l hB) (l2 0 (by omega)))) (oN_some (d2 0 hb.one))) ?_
  refine q_while (fun m σ' H' => ∃ k v2, 1 ≤ k ∧ k ≤ p ∧ m = p - k ∧ σ' = [some (.ref a), some (.int (d : Int)), v2, some (.ref r), some (.int (iter (bk B) k d : Nat))] ∧ Same H H' ∧ H' r = some (.lst (tab k fun i => .int (iter (bk B) i d : Nat))))
    (p - 1) ⟨1, _, Nat.le_refl _, hb.one, rfl, rfl, S1, hr⟩ fun m σ' H' ⟨k, v2, k1, k2, em, es, S, hr'⟩ => ?_
  subst em es
  refine ⟨!decide ((iter (bk B) k d : Nat) = (d : Int)), vt_test (by walk_at "va"), fun hb1 => ?_, fun hb1 => ?_⟩
  · have hkp : k < p := by
      by_cases c : k = p
      · subst c
        have per := hb.per
        rw [hd] at per
        rw [per] at hb1
        simp at hb1
      · omega
    refine ⟨fun σ2 H2 => ∃ v2, σ2 = [some (.ref a), some (.int (d : Int)), v2, some (.ref r), some (.int (iter (bk B) (k + 1) d : Nat))] ∧ Same H H2 ∧ H2 r = some (.lst (tab (k + 1) fun i => .int (iter (bk B) i d : Nat))), fun σ2 H2 ⟨v2, e1, e2, e3⟩ => ⟨p - (k + 1), by omega, k + 1, v2, by omega, hkp, rfl, e1, e2, e3⟩, ?_⟩
    refine q_app (va_var rfl) (va_var rfl) hr' (by rw [tab_len]; have := hb.le; omega) ?_
    have S2 : Same H (upd H' r (.lst (tab k (fun i => .int (iter (bk B) i d : Nat)) ++ [.int (iter (bk B) k d : Nat)]))) := same_mut S nr
    exact st_asg (va_is (va_op (va_var rfl) (va_var rfl) (vr_xLl (S2.l hB) (l2 k k2))) (oN_some (d2 k hkp))) ⟨_, rfl, S2, by rw [upd_same, tab_succ]⟩
  · have hkp : k = p := by
      by_cases c : k < p
      · have e : iter (bk B) k d ≠ d := by have := hb.min k k1 c; rw [hd] at this; exact this
        have : (iter (bk B) k d : Int) = (d : Int) := by simpa using hb1
        omega
      · omega
    subst hkp
    refine q_rev (va_var rfl) hr' ?_
    rw [tab_rev]
    refine st_retA (al_tupZ (va_var rfl) (SqL.of upd_same)) fun v H2 S2 ⟨pp, ev, np, hp⟩ => q v H2 ((same_mut S nr).trans S2) ⟨pp, ev, ?_⟩
    unfold bring
    rw [hd]
    exact hp
end
end K45
set_option Elab.async false
set_option linter.all false
set_option maxRecDepth 100000
set_option maxHeartbeats 200000
namespace K45
open PySem PySem.Spec PyProof.Rows L2
abbrev s_greatest_sums : Stmt := topS 16
theorem sc_greatest_sums : FnScope ["gains", "size", "sums", "before", "_", "last", "x", "y"] ["gains"] (defScope s_greatest_sums) := ⟨rfl, rfl, rfl, by decide +kernel, rfl, by decide +kernel, by decide +kernel⟩
def t_greatest_sums (K : PySem.W.Frag) (sp_ring_behind : Sp) : TS := (tSeq (tAsg (tCB (cLen K) (tCons (tVar 0) tNil)) (gName 1))
    (tSeq (tAsg (tOp rRep (tLst (tCons (tC (.int 0)) tNil)) (tVar 1)) (gName 2))
    (tSeq (tAsg (tOp rRep (tLst (tCons (tC .non) tNil)) (tVar 1)) (gName 3))
    (tSeq (tFor (iRng1 (tCons (tVar 1) tNil)) (gName 4) (tSeq (tAsg (tC .non) (gName 5))
    (tSeq (tFor (iRng1 (tCons (tVar 1) tNil)) (gName 6) (tFor (iRng1 (tCons (tVar 1) tNil)) (gName 7) (tIfS (tAnd (tTest (tOp kNotN (tOp (rIx K) (tOp (rIx K) (tVar 0) (tVar 6)) (tVar 7)) (tC .non))) (tTest (tOp rGt (tOp rAdd (tOp (rIx K) (tVar 2) (tVar 6)) (tOp (rIx K) (tOp (rIx K) (tVar 0) (tVar 6)) (tVar 7))) (tOp (rIx K) (tVar 2) (tVar 7))))) (tSeq (tAsg (tOp rAdd (tOp (rIx K) (tVar 2) (tVar 6)) (tOp (rIx K) (tOp (rIx K) (tVar 0) (tVar 6)) (tVar 7))) (gSub (tVar 2) (tVar 7) rSetL))
    (tSeq (tAsg (tVar 6) (gSub (tVar 3) (tVar 7) rSetL))
    (tAsg (tVar 7) (gName 5)))) tNext)))
    (tIfS (tTest (tOp kIsN (tVar 5) (tC .non))) (tRet (tTup (tCons (tVar 2) (tCons (tC .non) tNil)))) tNext))))
    (tRet (tTup (tCons (tC .non) (tCons (tCall sp_ring_behind [] E0 (tCons (tVar 3) (tCons (tVar 5) tNil))) tNil))))))))
theorem d_greatest_sums {P : Program} {w : World} {K : PySem.W.Frag} {mg : Str → Option Value} {base : Heap} (B : Bif mg) {sp_ring_behind : Sp} (c_ring_behind : Cal P w K mg base 1 "ring_behind" ["before", "door"] sp_ring_behind) {f : Addr} {cdv : Value} {A : Around} {outer : List Env} {s : Shared} {H : Hp} {E : XK} (hr : Room 1 (A.deeper (envOfC "greatest_sums" (defScope s_greatest_sums) s.heap.objs.size f cdv))) :
    PSs (cxOf CX0 P w K mg base ["gains", "size", "sums", "before", "_", "last", "x", "y"] "greatest_sums" (defScope s_greatest_sums) f cdv A outer s H E).nox (defBody s_greatest_sums) (t_greatest_sums K sp_ring_behind) := by
  have nd := sc_greatest_sums.nd
  exact (pss_cons (ps_set (i := 1) nd rfl (Or.inl rfl) (pe_callB k_len (by rfl) B.len_ (by decide +kernel) (pa_cons (pv 0) pa_nil)))
      (pss_cons (ps_set (i := 2) nd rfl (Or.inl rfl) (pe_op op_rep (pe_lst (pa_cons pe_int pa_nil)) (pv 1)))
      (pss_cons (ps_set (i := 3) nd rfl (Or.inl rfl) (pe_op op_rep (pe_lst (pa_cons pe_non pa_nil)) (pv 1)))
      (pss_cons (ps_for PassesOwn.never rfl (pi_range1 (by rfl) B.range_ (pa_cons (pv 1) pa_nil)) (pg_name (i := 4) nd rfl (Or.inl rfl)) (pss_cons (ps_set (i := 5) nd rfl (Or.inl rfl) pe_non)
      (pss_cons (ps_for PassesOwn.never rfl (pi_range1 (by rfl) B.range_ (pa_cons (pv 1) pa_nil)) (pg_name (i := 6) nd rfl (Or.inl rfl)) (pss_one (ps_for PassesOwn.never rfl (pi_range1 (by rfl) B.range_ (pa_cons (pv 1) pa_nil)) (pg_name (i := 7) nd rfl (Or.inl rfl)) (pss_one (ps_if (PW.pt (pw_and (pt_cmpR k_notN (pe_ix ix_seq (pe_ix ix_seq (pv 0) (pv 6) (fun _ _ => rfl)) (pv 7) (fun _ _ => rfl)) pe_non (nomark _)) (pw_and1 (pt_cmpR k_gt (pe_op k_add (pe_ix ix_seq (pv 2) (pv 6) (fun _ _ => rfl)) (pe_ix ix_seq (pe_ix ix_seq (pv 0) (pv 6) (fun _ _ => rfl)) (pv 7) (fun _ _ => rfl))) (pe_ix ix_seq (pv 2) (pv 7) (fun _ _ => rfl)) (nomark _))))) (pss_cons (ps_asg (pe_op k_add (pe_ix ix_seq (pv 2) (pv 6) (fun _ _ => rfl)) (pe_ix ix_seq (pe_ix ix_seq (pv 0) (pv 6) (fun _ _ => rfl)) (pv 7) (fun _ _ => rfl))) (pg_sub (pv 2) (pv 7) set_list))
      (pss_cons (ps_asg (pv 6) (pg_sub (pv 3) (pv 7) set_list))
      (pss_one (ps_set (i := 5) nd rfl (Or.inl rfl) (pv 7))))) pss_nil)))))
      (pss_one (ps_if (pt_cmpR k_isN (pv 5) pe_non (nomark _)) (pss_one (ps_ret (pe_tup (pa_cons (pv 2) (pa_cons pe_non pa_nil))))) pss_nil)))))
      (pss_one (ps_ret (pe_tup (pa_cons pe_non (pa_cons (pe_cal c_ring_behind hr (by decide) (by rfl) (pa_cons (pv 3) (pa_cons (pv 5) pa_nil))) pa_nil)))))))))

section
variable {P : Program} {w : World} {K : PySem.W.Frag} {mg : Str → Option Value} {base : Heap}
abbrev tabI (n : Nat) (S : Nat → Int) : List V := tab n fun i => .int (S i)
/-- sums that suit, or a ring -/
def GS (K : PySem.W.Frag) (n : Nat) (w : Gr) : V → Hp → Prop := fun v H' => ∃ q, v = .ref q ∧
  ((∃ sA S, SqT K H' q [.ref sA, .non] ∧ SqL K H' sA (tabI n S) ∧ Feas n w S) ∨
   ∃ rA p c, SqT K H' q [.non, .ref rA] ∧ PT H' rA (tab p fun i => .int (c i : Nat)) ∧ IsRing n w p c ∧ 0 < rsum w p c)
def spGreatest (K : PySem.W.Frag) : Sp := fun vs H Q _ => ∃ (n : Nat) (a : Addr) (w : Gr), vs = [.ref a] ∧ LL K H a n n (oI w) ∧ 1 ≤ n ∧ n ≤ 1000 ∧ (∀ x, w x x = none) ∧ Ret (GS K n w) H Q
theorem cal_greatest_sums (T : Txt K mg) : Cal P w K mg base 2 "greatest_sums" ["gains"] (spGreatest K) := by
  refine T.greatest_sums.cal sc_greatest_sums (fun vs H Q E h => ?_) (fun f cdv A outer s H vs Q E hr h => ⟨_, d_greatest_sums T.B (cal_ring_behind T) hr, ?_⟩)
  · obtain ⟨n, a, w, rfl, _⟩ := h; rfl
  obtain ⟨n, a, u, rfl, hg, hn1, hn, hw, q⟩ := h
  unfold t_greatest_sums
  refine q_asg (v := .int (n : Int)) (by walk_at "va") ?_
  refine q_asgA (al_rep (n := n) (v := .int 0) (by walk_at "vs") (fun H1 _ => by walk_at "va") (by omega)) fun v H1 S1 ⟨sA, ev, ns, hs1⟩ => ?_
  subst ev
  refine q_asgA (al_rep (n := n) (v := .non) (by walk_at "vs") (fun H1 _ => by walk_at "va") (by omega)) fun v H2 S2 ⟨bA, ev, nb1, hb2⟩ => ?_
  subst ev
  have nb : H bA = none := S1.none nb1
  have nsb : sA ≠ bA := ne_of_none hs1 nb1
  let ST : BS → Option V → Option V → List (Option V) → Hp → Prop := fun s v6 v7 σ H' => ∃ v4, σ = [some (.ref a), some (.int (n : Int)), some (.ref sA), some (.ref bA), v4, some (oN s.L), v6, v7] ∧
    Same H H' ∧ H' sA = some (.lst (tabI n s.S)) ∧ H' bA = some (.lst (tab n fun i => oN (s.B i)))
  refine q_forR (n := n) (by walk_at "vs") (by omega) (fun r σ' H' => ∃ v4 v5 v6 v7, σ' = [some (.ref a), some (.int (n : Int)), some (.ref sA), some (.ref bA), v4, v5, v6, v7] ∧
    Same H H' ∧ H' sA = some (.lst (tabI n (bround u n r).S)) ∧ H' bA = some (.lst (tab n fun i => oN ((bround u n r).B i))) ∧ (1 ≤ r → ∃ y, (bround u n r).L = some y ∧ v5 = some (.int (y : Int))))
    ⟨none, none, none, none, rfl, S1.trans S2, S2 _ _ hs1, hb2, fun z => by omega⟩ (fun r σ' H' hr ⟨v4, v5, v6, v7, es, S, e1, e2, _⟩ => ?_) (fun σ' H' ⟨v4, v5, v6, v7, es, S, e1, e2, e3⟩ => ?_)
  · subst es
    refine q_asg (v := .non) va_c ?_
    refine q_forR (n := n) (by walk_at "vs") (by omega) (fun x σ' H' => ∃ v6 v7, ST (bpass u n x { bround u n r with L := none }) v6 v7 σ' H') ⟨v6, v7, _, rfl, S, e1, e2⟩ (fun x σ' H' hx ⟨v6, v7, v4, es, S, e1, e2⟩ => ?_) (fun σ' H' ⟨v6, v7, v4, es, S, e1, e2⟩ => ?_)
    · subst es
      refine st_forR (n := n) (by walk_at "vs") (by omega) (fun y σ' H' => ∃ v7, ST (brow u x y (bpass u n x { bround u n r with L := none })) (some (.int (x : Int))) v7 σ' H') ⟨v7, _, rfl, S, e1, e2⟩ (fun y σ' H' hy ⟨v7, v4, es, S, e1, e2⟩ => ?_) (fun σ' H' ⟨v7, h⟩ => ⟨_, v7, h⟩)
      subst es
      show tIfS _ _ _ _ _ _
      have hg' := S.ll hg
      have bs : brow u x (y + 1) (bpass u n x { bround u n r with L := none }) = bstep u x y (brow u x y (bpass u n x { bround u n r with L := none })) := rfl
      rw [bs]
      generalize brow u x y (bpass u n x { bround u n r with L := none }) = s at e1 e2 ⊢
      cases c : u x y with
      | none =>
        have hb : bstep u x y s = s := by unfold bstep; rw [c]
        rw [hb]
        refine st_ifF (vt_and0 (vt_test (va_op (va_is (va_LL hg' (va_var rfl) (va_var rfl) (va_var rfl) hx hy) (oV_none c)) va_c vr_notNn))) ⟨_, _, rfl, S, e1, e2⟩
      | some v =>
        have vg : ∀ σ, σ[0]? = some (some (V.ref a)) → σ[6]? = some (some (V.int (x : Int))) → σ[7]? = some (some (V.int (y : Int))) → Va (tOp (rIx K) (tOp (rIx K) (tVar 0) (tVar 6)) (tVar 7)) σ H' (.int v) := fun σ h0 h6 h7 => va_is (va_LL hg' (va_var h0) (va_var h6) (va_var h7) hx hy) (oV_some c)
        have hb : bstep u x y s = if s.S y < s.S x + v then ⟨up s.S y (s.S x + v), up s.B y (some x), some y⟩ else s := by unfold bstep; rw [c]
        rw [hb]
        refine st_if (b := decide (s.S y < s.S x + v)) (vt_andT (vt_test (va_op (vg _ rfl rfl rfl) va_c vr_notNi)) (vt_test (va_op (va_op (va_op (va_var rfl) (va_var rfl) (vr_xHl e1 hx)) (vg _ rfl rfl rfl) vr_add) (va_op (va_var rfl) (va_var rfl) (vr_xHl e1 hy)) vr_gt))) (fun hb => ?_) (fun hb => ?_)
        · have hlt := of_decide_eq_true hb
          rw [if_pos hlt]
          refine q_setL (j := y) (va_op (va_op (va_var rfl) (va_var rfl) (vr_xHl e1 hx)) (vg _ rfl rfl rfl) vr_add) (va_var rfl) (va_var rfl) e1 hy ?_
          refine q_setL (j := y) (va_var rfl) (va_var rfl) (va_var rfl) (show upd H' sA _ bA = _ by rw [upd_ne (Ne.symm nsb)]; exact e2) hy ?_
          refine st_asg (va_var rfl) ⟨_, _, rfl, same_mut (same_mut S ns) nb, ?_, ?_⟩
          · rw [upd_ne nsb, upd_same]
            exact congrArg (fun l => some (HO.lst l)) (tab_up (g := V.int))
          · rw [upd_same]
            exact congrArg (fun l => some (HO.lst l)) (tab_up (g := oN) (v := some x))
        · rw [if_neg (of_decide_eq_false hb)]
          exact ⟨_, _, rfl, S, e1, e2⟩
    · subst es
      have br : bround u n (r + 1) = bpass u n n { bround u n r with L := none } := rfl
      rw [← br] at e1 e2
      show tIfS _ _ _ _ _ _
      cases c : (bround u n (r + 1)).L with
      | none =>
        refine st_ifT (vt_test (va_op (va_var (v := .non) (by show some (some (oN (bround u n (r + 1)).L)) = _; rw [c]; rfl)) va_c vr_isNn)) ?_
        refine st_retA (al_tup (vs := [.ref sA, .non]) (by walk_at "vs")) fun v H3 S3 ⟨p, ev, _, hp⟩ => q v H3 (S.trans S3) ⟨p, ev, .inl ⟨sA, _, SqT.of hp, SqL.of (S3 _ _ e1), bround_feas hw c⟩⟩
      | some y =>
        refine st_ifF (vt_test (va_op (va_var (v := .int (y : Int)) (by show some (some (oN (bround u n (r + 1)).L)) = _; rw [c]; rfl)) va_c vr_isNi)) ?_
        exact ⟨_, _, _, _, rfl, S, e1, e2, fun _ => ⟨y, rfl, by show some (oN (bround u n (r + 1)).L) = _; rw [c]; rfl⟩⟩
  · subst es
    obtain ⟨y, hy, rfl⟩ := e3 hn1
    obtain ⟨p, hp⟩ := behind_of hn1 hw hy
    obtain ⟨r1, r2⟩ := bring_ok hn1 hw hp
    refine st_retA (P := GS K n u) (fun Q r => ?_) fun v H3 S3 g => q v H3 (S.trans S3) g
    refine al_call (P := IsTupInt K p (bring n (bround u n n).B y p)) (by walk_at "vs") (fun Q E r => ⟨n, bA, _, y, p, rfl, SqL.of e2, hn, hp, r⟩) _ fun v H3 S3 ⟨rA, ev, hrA⟩ => ?_
    subst ev
    refine ⟨by show 2 ≤ sizeLine; decide, fun qq nq => r _ _ (S3.trans (same_new nq)) ⟨qq, rfl, .inr ⟨rA, p, _, SqT.of upd_same, hrA.same (same_new nq), r1, r2⟩⟩⟩
end
end K45
set_option linter.all false
namespace K45
/-! ### a machine that raises values along arcs -/
structure RS where
  S : Nat → Option Int
  F : Nat → Option Nat
  C : Bool
/-- along the arc from u to v -/
def rel (w : Gr) (u v : Nat) (s : RS) : RS := match w u v, s.S u with
  | some g, some c => (match s.S v with
    | none => ⟨up s.S v (some (c + g)), up s.F v (some u), true⟩
    | some d => if d < c + g then ⟨up s.S v (some (c + g)), up s.F v (some u), true⟩ else s)
  | _, _ => s
def sat (w : Gr) (s : RS) (u v : Nat) : Prop := ∀ g c, w u v = some g → s.S u = some c → ∃ d, s.S v = some d ∧ c + g ≤ d
structure GI (m : Nat) (w : Gr) (S0 : Nat → Option Int) (π : Nat → Int) (s : RS) (τ : Nat → Nat) (T : Nat) : Prop where
  bd : ∀ v c, v < m → s.S v = some c → c ≤ π v
  mono : ∀ v c0, S0 v = some c0 → ∃ c, s.S v = some c ∧ c0 ≤ c
  att : ∀ v c, v < m → s.S v = some c → (S0 v = some c ∧ s.F v = none) ∨ ∃ u g d, s.F v = some u ∧ u < m ∧ w u v = some g ∧ s.S u = some d ∧ (c < d + g ∨ (c = d + g ∧ τ u < τ v))
  ta : ∀ v, τ v ≤ T
def cnt (m : Nat) (s : RS) : Int := sumN m fun v => if s.S v = none then 1 else 0
def slk (m : Nat) (π : Nat → Int) (s : RS) : Int := sumN m fun v => match s.S v with
  | none => 0
  | some c => π v - c
def Less (m : Nat) (π : Nat → Int) (s s0 : RS) : Prop := cnt m s < cnt m s0 ∨ (cnt m s = cnt m s0 ∧ slk m π s < slk m π s0)
theorem Less.trans {m : Nat} {π : Nat → Int} {a b c : RS} (h : Less m π a b) (k : Less m π b c) : Less m π a c := by
  unfold Less at *
  omega
def GJ (m : Nat) (w : Gr) (S0 : Nat → Option Int) (π : Nat → Int) (s : RS) : Prop := ∃ τ T, GI m w S0 π s τ T
theorem cnt_nn {m : Nat} {s : RS} : 0 ≤ cnt m s := sumN_nonneg fun i _ => by
  show (0 : Int) ≤ if s.S i = none then 1 else 0
  split <;> omega
theorem slk_nn {m : Nat} {w : Gr} {S0 : Nat → Option Int} {π : Nat → Int} {s : RS} (h : GJ m w S0 π s) : 0 ≤ slk m π s := by
  obtain ⟨τ, T, h⟩ := h
  refine sumN_nonneg fun i hi => ?_
  show (0 : Int) ≤ match s.S i with
    | none => 0
    | some c => π i - c
  cases e : s.S i with
  | none => exact Int.le_refl _
  | some c => have := h.bd i c hi e; show 0 ≤ π i - c; omega
/-- a raise at v from a value below -/
theorem raise_less {m : Nat} {π : Nat → Int} {s : RS} {v u : Nat} {c : Int} (hv : v < m) (h : ∀ d, s.S v = some d → d < c) : Less m π ⟨up s.S v (some c), up s.F v (some u), true⟩ s := by
  have e1 : cnt m ⟨up s.S v (some c), up s.F v (some u), true⟩ = cnt m s - (if s.S v = none then 1 else 0) + 0 := by
    unfold cnt
    rw [← sumN_up hv]
    refine sumN_congr fun i hi => ?_
    show (if up s.S v (some c) i = none then (1 : Int) else 0) = up (fun i => if s.S i = none then (1 : Int) else 0) v 0 i
    by_cases e : i = v
    · subst e; rw [up_same, up_same, if_neg (by simp)]
    · rw [up_ne e, up_ne e]
  have e2 : slk m π ⟨up s.S v (some c), up s.F v (some u), true⟩ = slk m π s - (match s.S v with | none => 0 | some d => π v - d) + (π v - c) := by
    unfold slk
    rw [← sumN_up (f := fun i => match s.S i with | none => 0 | some d => π i - d) hv]
    refine sumN_congr fun i hi => ?_
    show (match up s.S v (some c) i with | none => 0 | some d => π i - d) = up (fun i => match s.S i with | none => 0 | some d => π i - d) v (π v - c) i
    by_cases e : i = v
    · subst e; rw [up_same, up_same]
    · rw [up_ne e, up_ne e]
  cases q : s.S v with
  | none =>
    left
    rw [e1, q, if_pos rfl]
    omega
  | some d =>
    right
    have := h d q
    rw [e1, e2, q, if_neg (by simp)]
    exact ⟨by omega, by show slk m π s - (π v - d) + (π v - c) < _; omega⟩
theorem rel_cases (w : Gr) (u v : Nat) (s : RS) : (rel w u v s = s ∧ sat w s u v) ∨ ∃ g c, w u v = some g ∧ s.S u = some c ∧ (∀ d, s.S v = some d → d < c + g) ∧ rel w u v s = ⟨up s.S v (some (c + g)), up s.F v (some u), true⟩ := by
  unfold rel
  cases e : w u v with
  | none => exact .inl ⟨rfl, fun g c h => by rw [e] at h; cases h⟩
  | some g =>
    cases e2 : s.S u with
    | none => exact .inl ⟨rfl, fun g c _ h => by rw [e2] at h; cases h⟩
    | some c =>
      cases e3 : s.S v with
      | none => exact .inr ⟨g, c, rfl, rfl, fun d h => (nomatch h), rfl⟩
      | some d =>
        by_cases hlt : d < c + g
        · exact .inr ⟨g, c, rfl, rfl, fun d' h => by cases h; exact hlt, if_pos hlt⟩
        · refine .inl ⟨if_neg hlt, fun g' c' h1 h2 => ?_⟩
          rw [e] at h1; cases h1
          rw [e2] at h2; cases h2
          exact ⟨d, e3, by omega⟩
theorem rel_ok {m : Nat} {w : Gr} {S0 : Nat → Option Int} {π : Nat → Int} {u v : Nat} {s : RS} (hu : u < m) (hv : v < m) (ne : u ≠ v) (hπ : ∀ g, w u v = some g → π u + g ≤ π v) (h : GJ m w S0 π s) : GJ m w S0 π (rel w u v s) := by
  rcases rel_cases w u v s with ⟨e, _⟩ | ⟨g, c, e1, e2, e3, e⟩
  · rw [e]; exact h
  · rw [e]
    obtain ⟨τ, T, h⟩ := h
    refine ⟨up τ v (T + 1), T + 1, fun x d hx hd => ?_, fun x c0 h0 => ?_, fun x d hx hd => ?_, fun x => ?_⟩
    · have hd' : up s.S v (some (c + g)) x = some d := hd
      by_cases q : x = v
      · subst q
        rw [up_same] at hd'
        cases hd'
        have := hπ g e1
        have := h.bd u c hu e2
        omega
      · rw [up_ne q] at hd'; exact h.bd x d hx hd'
    · show ∃ c', up s.S v (some (c + g)) x = some c' ∧ c0 ≤ c'
      obtain ⟨c', a, b⟩ := h.mono x c0 h0
      by_cases q : x = v
      · subst q; rw [up_same]; have := e3 c' a; exact ⟨_, rfl, by omega⟩
      · rw [up_ne q]; exact ⟨c', a, b⟩
    · have hd' : up s.S v (some (c + g)) x = some d := hd
      show (S0 x = some d ∧ up s.F v (some u) x = none) ∨ ∃ u' g' d', up s.F v (some u) x = some u' ∧ u' < m ∧ w u' x = some g' ∧ up s.S v (some (c + g)) u' = some d' ∧ (d < d' + g' ∨ (d = d' + g' ∧ up τ v (T + 1) u' < up τ v (T + 1) x))
      by_cases q : x = v
      · subst q
        rw [up_same] at hd'
        cases hd'
        refine .inr ⟨u, g, c, up_same, hu, e1, by rw [up_ne ne]; exact e2, .inr ⟨rfl, ?_⟩⟩
        rw [up_same, up_ne ne]
        have := h.ta u; omega
      · rw [up_ne q] at hd'
        rw [up_ne q, up_ne q]
        rcases h.att x d hx hd' with ⟨a, b⟩ | ⟨u', g', d', a1, a2, a3, a4, a5⟩
        · exact .inl ⟨a, b⟩
        · right
          by_cases r : u' = v
          · subst r
            have := e3 d' a4
            refine ⟨u', g', c + g, a1, a2, a3, up_same, .inl ?_⟩
            rcases a5 with a5 | ⟨a5, _⟩ <;> omega
          · exact ⟨u', g', d', a1, a2, a3, by rw [up_ne r]; exact a4, by rw [up_ne r]; exact a5⟩
    · by_cases q : x = v
      · subst q; rw [up_same]; exact Nat.le_refl _
      · rw [up_ne q]; have := h.ta x; omega
/-- within a pass that began at s0: calm, the done arcs satisfied; or less -/
def RI (m : Nat) (w : Gr) (π : Nat → Int) (s0 s : RS) (D : Nat → Nat → Prop) : Prop :=
  (s.C = false ∧ s.S = s0.S ∧ s.F = s0.F ∧ ∀ u v, D u v → sat w s u v) ∨ (s.C = true ∧ Less m π s s0)
theorem rel_ri {m : Nat} {w : Gr} {π : Nat → Int} {u v : Nat} {s0 s : RS} {D : Nat → Nat → Prop} (hv : v < m) (h : RI m w π s0 s D) : RI m w π s0 (rel w u v s) (fun a b => D a b ∨ (a = u ∧ b = v)) := by
  rcases rel_cases w u v s with ⟨e, e2⟩ | ⟨g, c, e1, e2, e3, e⟩
  · rw [e]
    rcases h with ⟨a, b, c, d⟩ | h
    · exact .inl ⟨a, b, c, fun x y hxy => hxy.elim (d x y) fun ⟨p, q⟩ => by rw [p, q]; exact e2⟩
    · exact .inr h
  · rw [e]
    have l := raise_less (π := π) (u := u) hv e3
    rcases h with ⟨a, b, c, d⟩ | ⟨_, h⟩
    · refine .inr ⟨rfl, ?_⟩
      unfold Less cnt slk at l ⊢
      rw [← b]
      exact l
    · exact .inr ⟨rfl, l.trans h⟩
theorem RI.mono {m : Nat} {w : Gr} {π : Nat → Int} {s0 s : RS} {D D' : Nat → Nat → Prop} (h : RI m w π s0 s D) (k : ∀ u v, D' u v → D u v) : RI m w π s0 s D' := by
  rcases h with ⟨a, b, c, d⟩ | h
  · exact .inl ⟨a, b, c, fun u v q => d u v (k u v q)⟩
  · exact .inr h
theorem ri_start {m : Nat} {w : Gr} {π : Nat → Int} {s0 : RS} : RI m w π s0 { s0 with C := false } (fun _ _ => False) := .inl ⟨rfl, rfl, rfl, fun _ _ h => h.elim⟩
/-- passes come to an end -/
def itr (f : RS → RS) : Nat → RS → RS
  | 0, s => s
  | k + 1, s => f (itr f k s)
theorem itr_succ (f : RS → RS) (k : Nat) (s : RS) : itr f (k + 1) s = itr f k (f s) := by
  induction k with
  | zero => rfl
  | succ k ih => show f (itr f (k + 1) s) = f (itr f k (f s)); rw [ih]
theorem ends {m : Nat} {π : Nat → Int} (I : RS → Prop) (f : RS → RS) (hI : ∀ s, I s → I (f s)) (hp : ∀ s, I s → (f s).C = false ∨ Less m π (f s) s) (hb : ∀ s, I s → 0 ≤ slk m π s) :
    ∀ (a b : Nat) (s : RS), I s → (cnt m s).toNat = a → (slk m π s).toNat = b → ∃ N, (itr f (N + 1) s).C = false := by
  intro a
  induction a using Nat.strongRecOn with
  | _ a iha =>
    intro b
    induction b using Nat.strongRecOn with
    | _ b ihb =>
      intro s hs ea eb
      rcases hp s hs with h | h
      · exact ⟨0, h⟩
      · have c0 := cnt_nn (m := m) (s := s)
        have c1 := cnt_nn (m := m) (s := f s)
        have s0 := hb s hs
        have s1 := hb (f s) (hI s hs)
        rcases h with h | ⟨h1, h2⟩
        · obtain ⟨N, e⟩ := iha (cnt m (f s)).toNat (by omega) _ (f s) (hI s hs) rfl rfl
          exact ⟨N + 1, by rw [itr_succ]; exact e⟩
        · obtain ⟨N, e⟩ := ihb (slk m π (f s)).toNat (by omega) (f s) (hI s hs) (by rw [h1]; exact ea) rfl
          exact ⟨N + 1, by rw [itr_succ]; exact e⟩
/-! ### sums_to -/
def rev (w : Gr) : Gr := fun u v => w v u
def others (n goal : Nat) : List Nat := (List.range n).filter fun x => !decide (x = goal)
theorem others_len (n goal : Nat) : (others n goal).length ≤ n := by
  have := List.length_filter_le (fun x => !decide (x = goal)) (List.range n)
  rw [List.length_range] at this
  exact this
theorem others_mem {n goal x : Nat} : x ∈ others n goal ↔ x < n ∧ x ≠ goal := by
  unfold others
  rw [List.mem_filter, List.mem_range]
  simp
theorem others_get {n goal k : Nat} (h : k < (others n goal).length) : (others n goal).getD k 0 < n ∧ (others n goal).getD k 0 ≠ goal := by
  have e : (others n goal).getD k 0 = (others n goal)[k] := by simp [List.getD, List.getElem?_eq_getElem h]
  rw [e]
  exact others_mem.mp (List.getElem_mem h)
theorem others_at {n goal x : Nat} (h : x < n) (h2 : x ≠ goal) : ∃ k, k < (others n goal).length ∧ (others n goal).getD k 0 = x := by
  obtain ⟨k, hk, e⟩ := List.getElem_of_mem (others_mem.mpr ⟨h, h2⟩)
  exact ⟨k, hk, by simp [List.getD, List.getElem?_eq_getElem hk, e]⟩
def srow (w : Gr) (x : Nat) : Nat → RS → RS
  | 0, s => s
  | k + 1, s => rel (rev w) k x (srow w x k s)
def spass (w : Gr) (n goal : Nat) : Nat → RS → RS
  | 0, s => s
  | k + 1, s => srow w ((others n goal).getD k 0) n (spass w n goal k s)
def sturn (w : Gr) (n goal : Nat) (s : RS) : RS := spass w n goal (others n goal).length { s with C := false }
def sfirst (goal : Nat) : RS := ⟨up (fun _ => none) goal (some 0), fun _ => none, true⟩
structure Best (n : Nat) (w : Gr) (goal : Nat) (S : Nat → Option Int) (F : Nat → Option Nat) (τ : Nat → Nat) : Prop where
  at0 : S goal = some 0
  fix : ∀ x y g v, x < n → y < n → x ≠ goal → w x y = some g → S y = some v → ∃ c, S x = some c ∧ g + v ≤ c
  att : ∀ x c, x < n → x ≠ goal → S x = some c → ∃ f g v, F x = some f ∧ f < n ∧ w x f = some g ∧ S f = some v ∧ c = g + v ∧ τ f < τ x
section
variable {n : Nat} {w : Gr} {goal : Nat} {p : Nat → Int}
def spi (goal : Nat) (p : Nat → Int) : Nat → Int := fun v => p goal - p v
def sS0 (goal : Nat) : Nat → Option Int := up (fun _ => none) goal (some 0)
theorem srow_ok (hw : ∀ x, w x x = none) (hp : ∀ x y g, x < n → y < n → x ≠ goal → w x y = some g → p x + g ≤ p y) {x : Nat} (hx : x < n) (hxg : x ≠ goal) {s0 s : RS} {D : Nat → Nat → Prop}
    (h : GJ n (rev w) (sS0 goal) (spi goal p) s) (r : RI n (rev w) (spi goal p) s0 s D) : ∀ k, k ≤ n → GJ n (rev w) (sS0 goal) (spi goal p) (srow w x k s) ∧ RI n (rev w) (spi goal p) s0 (srow w x k s) (fun a b => D a b ∨ (b = x ∧ a < k))
  | 0, _ => ⟨h, r.mono fun a b q => q.elim id fun ⟨_, z⟩ => absurd z (Nat.not_lt_zero _)⟩
  | k + 1, hk => by
    obtain ⟨a, b⟩ := srow_ok hw hp hx hxg h r k (by omega)
    by_cases e : k = x
    · subst e
      have e2 : srow w k (k + 1) s = srow w k k s := by
        show rel (rev w) k k (srow w k k s) = _
        unfold rel rev
        rw [hw]
      rw [e2]
      rcases b with ⟨b1, b2, b3, b4⟩ | b
      · refine ⟨a, .inl ⟨b1, b2, b3, fun u v q => ?_⟩⟩
        rcases q with q | ⟨q1, q2⟩
        · exact b4 u v (.inl q)
        · by_cases eu : u = k
          · subst q1 eu
            intro g c hg
            rw [show rev w u u = none from hw u] at hg
            cases hg
          · exact b4 u v (.inr ⟨q1, by omega⟩)
      · exact ⟨a, .inr b⟩
    · refine ⟨rel_ok (by omega) hx e (fun g hg => ?_) a, (rel_ri (u := k) hx b).mono fun u v q => ?_⟩
      · have := hp x k g hx (by omega) hxg hg
        unfold spi
        omega
      · rcases q with q | ⟨q1, q2⟩
        · exact .inl (.inl q)
        · by_cases eu : u = k
          · exact .inr ⟨eu, q1⟩
          · exact .inl (.inr ⟨q1, by omega⟩)
theorem spass_ok (hw : ∀ x, w x x = none) (hp : ∀ x y g, x < n → y < n → x ≠ goal → w x y = some g → p x + g ≤ p y) {s0 s : RS} (h : GJ n (rev w) (sS0 goal) (spi goal p) s) (r : RI n (rev w) (spi goal p) s0 s (fun _ _ => False)) :
    ∀ k, k ≤ (others n goal).length → GJ n (rev w) (sS0 goal) (spi goal p) (spass w n goal k s) ∧ RI n (rev w) (spi goal p) s0 (spass w n goal k s) (fun a b => a < n ∧ ∃ j, j < k ∧ b = (others n goal).getD j 0)
  | 0, _ => ⟨h, r.mono fun a b ⟨_, j, hj, _⟩ => absurd hj (Nat.not_lt_zero _)⟩
  | k + 1, hk => by
    obtain ⟨a, b⟩ := spass_ok hw hp h r k (by omega)
    obtain ⟨h1, h2⟩ := others_get (n := n) (goal := goal) (show k < _ by omega)
    obtain ⟨c, d⟩ := srow_ok hw hp h1 h2 a b n (Nat.le_refl n)
    refine ⟨c, d.mono fun u v ⟨hu, j, hj, e⟩ => ?_⟩
    by_cases ej : j = k
    · subst ej; exact .inr ⟨e, hu⟩
    · exact .inl ⟨hu, j, by omega, e⟩
theorem sturn_ok (hw : ∀ x, w x x = none) (hp : ∀ x y g, x < n → y < n → x ≠ goal → w x y = some g → p x + g ≤ p y) {s : RS} (h : GJ n (rev w) (sS0 goal) (spi goal p) s) :
    GJ n (rev w) (sS0 goal) (spi goal p) (sturn w n goal s) ∧ RI n (rev w) (spi goal p) s (sturn w n goal s) (fun a b => a < n ∧ b < n ∧ b ≠ goal) := by
  have h' : GJ n (rev w) (sS0 goal) (spi goal p) { s with C := false } := by
    obtain ⟨τ, T, i⟩ := h
    exact ⟨τ, T, i.bd, i.mono, i.att, i.ta⟩
  obtain ⟨a, b⟩ := spass_ok hw hp h' ri_start _ (Nat.le_refl _)
  refine ⟨a, b.mono fun u v ⟨hu, hv, hg⟩ => ⟨hu, ?_⟩⟩
  obtain ⟨k, hk, e⟩ := others_at hv hg
  exact ⟨k, hk, e.symm⟩
theorem sfirst_ok (hg : goal < n) : GJ n (rev w) (sS0 goal) (spi goal p) (sfirst goal) := by
  refine ⟨fun _ => 0, 0, fun v c hv hc => ?_, fun v c0 h0 => ⟨c0, h0, Int.le_refl _⟩, fun v c hv hc => .inl ⟨hc, rfl⟩, fun _ => Nat.le_refl _⟩
  have hc' : up (fun _ => none) goal (some (0 : Int)) v = some c := hc
  by_cases e : v = goal
  · subst e; rw [up_same] at hc'; cases hc'; show (0 : Int) ≤ p v - p v; omega
  · rw [up_ne e] at hc'; cases hc'
theorem sseq_ok (hw : ∀ x, w x x = none) (hp : ∀ x y g, x < n → y < n → x ≠ goal → w x y = some g → p x + g ≤ p y) (hg : goal < n) : ∀ k, GJ n (rev w) (sS0 goal) (spi goal p) (itr (sturn w n goal) k (sfirst goal))
  | 0 => sfirst_ok hg
  | k + 1 => (sturn_ok hw hp (sseq_ok hw hp hg k)).1
theorem sseq_ends (hw : ∀ x, w x x = none) (hp : ∀ x y g, x < n → y < n → x ≠ goal → w x y = some g → p x + g ≤ p y) (hg : goal < n) : ∃ N, (itr (sturn w n goal) (N + 1) (sfirst goal)).C = false :=
  ends (m := n) (π := spi goal p) (GJ n (rev w) (sS0 goal) (spi goal p)) (sturn w n goal) (fun s h => (sturn_ok hw hp h).1) (fun s h => (sturn_ok hw hp h).2.elim (fun z => .inl z.1) fun z => .inr z.2) (fun s h => slk_nn h) _ _ _ (sfirst_ok hg) rfl rfl
/-- the end -/
theorem sseq_best (hw : ∀ x, w x x = none) (hp : ∀ x y g, x < n → y < n → x ≠ goal → w x y = some g → p x + g ≤ p y) (hg : goal < n) {k : Nat} (hk : (itr (sturn w n goal) k (sfirst goal)).C = false) :
    ∃ τ, Best n w goal (itr (sturn w n goal) k (sfirst goal)).S (itr (sturn w n goal) k (sfirst goal)).F τ := by
  cases k with
  | zero => cases (show (true : Bool) = false from hk)
  | succ k =>
    obtain ⟨a, b⟩ := sturn_ok hw hp (sseq_ok hw hp hg k)
    have e : itr (sturn w n goal) (k + 1) (sfirst goal) = sturn w n goal (itr (sturn w n goal) k (sfirst goal)) := rfl
    rw [e] at hk ⊢
    generalize sturn w n goal (itr (sturn w n goal) k (sfirst goal)) = s at *
    rcases b with ⟨_, _, _, b⟩ | ⟨b, _⟩
    · obtain ⟨τ, T, i⟩ := a
      have fx : ∀ x y g v, x < n → y < n → x ≠ goal → w x y = some g → s.S y = some v → ∃ c, s.S x = some c ∧ g + v ≤ c := fun x y g v hx hy hxg hgw hv => by
        obtain ⟨d, h1, h2⟩ := b y x ⟨hy, hx, hxg⟩ g v hgw hv
        exact ⟨d, h1, by omega⟩
      refine ⟨τ, ?_, fx, fun x c hx hxg hc => ?_⟩
      · obtain ⟨c, h1, h2⟩ := i.mono goal 0 (by unfold sS0; rw [up_same])
        have := i.bd goal c hg h1
        have hc : c = 0 := by have h3 : spi goal p goal = 0 := by unfold spi; omega
                              omega
        rw [hc] at h1
        exact h1
      · rcases i.att x c hx hc with ⟨h1, _⟩ | ⟨u, g, d, h1, h2, h3, h4, h5⟩
        · unfold sS0 at h1
          rw [up_ne hxg] at h1
          cases h1
        · obtain ⟨c', e1, e2⟩ := fx x u g d hx h2 hxg h3 h4
          rw [hc] at e1
          cases e1
          refine ⟨u, g, d, h1, h2, h3, h4, ?_, ?_⟩
          · rcases h5 with h5 | ⟨h5, _⟩ <;> omega
          · rcases h5 with h5 | ⟨_, h5⟩
            · omega
            · exact h5
    · rw [hk] at b; cases b
end
end K45
set_option Elab.async false
set_option linter.all false
set_option maxRecDepth 100000
set_option maxHeartbeats 400000
namespace K45
open PySem PySem.Spec PyProof.Rows L2
abbrev s_sums_to : Stmt := topS 18
theorem sc_sums_to : FnScope ["gains", "goal", "size", "sums", "following", "x", "others", "changed", "y"] ["gains", "goal"] (defScope s_sums_to) := ⟨rfl, rfl, rfl, by decide +kernel, rfl, by decide +kernel, by decide +kernel⟩
def t_sums_to (K : PySem.W.Frag) : TS := (tSeq (tAsg (tCB (cLen K) (tCons (tVar 0) tNil)) (gName 2))
    (tSeq (tAsg (tOp rRep (tLst (tCons (tC .non) tNil)) (tVar 2)) (gName 3))
    (tSeq (tAsg (tOp rRep (tLst (tCons (tC .non) tNil)) (tVar 2)) (gName 4))
    (tSeq (tAsg (tC (.int 0)) (gSub (tVar 3) (tVar 1) rSetL))
    (tSeq (tAsg (tLc (iRng1 (tCons (tVar 2) tNil)) (gName 5) (tTest (tOp rNe (tVar 5) (tVar 1))) (tVar 5) [5]) (gName 6))
    (tSeq (tAsg (tC (.bl true)) (gName 7))
    (tSeq (tWhile (tB (tVar 7)) (tSeq (tAsg (tC (.bl false)) (gName 7))
    (tFor (iList K (tVar 6)) (gName 5) (tFor (iRng1 (tCons (tVar 2) tNil)) (gName 8) (tSeq (tIfS (tOr (tTest (tOp kIsN (tOp (rIx K) (tOp (rIx K) (tVar 0) (tVar 5)) (tVar 8)) (tC .non))) (tTest (tOp kIsN (tOp (rIx K) (tVar 3) (tVar 8)) (tC .non)))) tCont tNext)
    (tIfS (tOr (tTest (tOp kIsN (tOp (rIx K) (tVar 3) (tVar 5)) (tC .non))) (tTest (tOp rGt (tOp rAdd (tOp (rIx K) (tOp (rIx K) (tVar 0) (tVar 5)) (tVar 8)) (tOp (rIx K) (tVar 3) (tVar 8))) (tOp (rIx K) (tVar 3) (tVar 5))))) (tSeq (tAsg (tOp rAdd (tOp (rIx K) (tOp (rIx K) (tVar 0) (tVar 5)) (tVar 8)) (tOp (rIx K) (tVar 3) (tVar 8))) (gSub (tVar 3) (tVar 5) rSetL))
    (tSeq (tAsg (tVar 8) (gSub (tVar 4) (tVar 5) rSetL))
    (tAsg (tC (.bl true)) (gName 7)))) tNext))))))
    (tRet (tTup (tCons (tVar 3) (tCons (tVar 4) tNil)))))))))))
theorem d_sums_to {P : Program} {w : World} {K : PySem.W.Frag} {mg : Str → Option Value} {base : Heap} (B : Bif mg)  {f : Addr} {cdv : Value} {A : Around} {outer : List Env} {s : Shared} {H : Hp} {E : XK} (hr : Room 0 (A.deeper (envOfC "sums_to" (defScope s_sums_to) s.heap.objs.size f cdv))) :
    PSs (cxOf CX0 P w K mg base ["gains", "goal", "size", "sums", "following", "x", "others", "changed", "y"] "sums_to" (defScope s_sums_to) f cdv A outer s H E).nox (defBody s_sums_to) (t_sums_to K ) := by
  have nd := sc_sums_to.nd
  exact (pss_cons (ps_set (i := 2) nd rfl (Or.inl rfl) (pe_callB k_len (by rfl) B.len_ (by decide +kernel) (pa_cons (pv 0) pa_nil)))
      (pss_cons (ps_set (i := 3) nd rfl (Or.inl rfl) (pe_op op_rep (pe_lst (pa_cons pe_non pa_nil)) (pv 2)))
      (pss_cons (ps_set (i := 4) nd rfl (Or.inl rfl) (pe_op op_rep (pe_lst (pa_cons pe_non pa_nil)) (pv 2)))
      (pss_cons (ps_asg pe_int (pg_sub (pv 3) (pv 1) set_list))
      (pss_cons (ps_setLc (i := 6) (own := [("x", 5)]) rfl nd rfl rfl (sw_true rfl rfl rfl (by decide +kernel)) (pi_range1 (by rfl) B.range_ (pa_cons (pv 2) pa_nil)) (blkOk_by (own := [("x", 5)]) (by kernel_rfl)) (fun _ _ _ _ _ => (pg_name (i := 5) nd rfl (Or.inl rfl))) (fun _ _ _ _ _ => (pts_one (pt_cmpR op_ne (pv 5) (pv 1) (nomark _)))) (fun _ _ _ _ _ => (pv 5)))
      (pss_cons (ps_set (i := 7) nd rfl (Or.inl rfl) pe_bl)
      (pss_cons (ps_while PassesOwn.never (pt_val (pv 7)) (pss_cons (ps_set (i := 7) nd rfl (Or.inl rfl) pe_bl)
      (pss_one (ps_for PassesOwn.never rfl (pi_list (pv 6)) (pg_name (i := 5) nd rfl (Or.inl rfl)) (pss_one (ps_for PassesOwn.never rfl (pi_range1 (by rfl) B.range_ (pa_cons (pv 2) pa_nil)) (pg_name (i := 8) nd rfl (Or.inl rfl)) (pss_cons (ps_if (PW.pt (pw_or (pt_cmpR k_isN (pe_ix ix_seq (pe_ix ix_seq (pv 0) (pv 5) (fun _ _ => rfl)) (pv 8) (fun _ _ => rfl)) pe_non (nomark _)) (pw_or1 (pt_cmpR k_isN (pe_ix ix_seq (pv 3) (pv 8) (fun _ _ => rfl)) pe_non (nomark _))))) (pss_one ps_continue) pss_nil)
      (pss_one (ps_if (PW.pt (pw_or (pt_cmpR k_isN (pe_ix ix_seq (pv 3) (pv 5) (fun _ _ => rfl)) pe_non (nomark _)) (pw_or1 (pt_cmpR k_gt (pe_op k_add (pe_ix ix_seq (pe_ix ix_seq (pv 0) (pv 5) (fun _ _ => rfl)) (pv 8) (fun _ _ => rfl)) (pe_ix ix_seq (pv 3) (pv 8) (fun _ _ => rfl))) (pe_ix ix_seq (pv 3) (pv 5) (fun _ _ => rfl)) (nomark _))))) (pss_cons (ps_asg (pe_op k_add (pe_ix ix_seq (pe_ix ix_seq (pv 0) (pv 5) (fun _ _ => rfl)) (pv 8) (fun _ _ => rfl)) (pe_ix ix_seq (pv 3) (pv 8) (fun _ _ => rfl))) (pg_sub (pv 3) (pv 5) set_list))
      (pss_cons (ps_asg (pv 8) (pg_sub (pv 4) (pv 5) set_list))
      (pss_one (ps_set (i := 7) nd rfl (Or.inl rfl) pe_bl)))) pss_nil)))))))))
      (pss_one (ps_ret (pe_tup (pa_cons (pv 3) (pa_cons (pv 4) pa_nil))))))))))))

theorem given_tab (n : Nat) (b : Nat → Bool) (f : Nat → V) : given n b f = tab ((List.range n).filter b).length (fun k => f (((List.range n).filter b).getD k 0)) := by
  unfold given
  apply List.ext_getElem?
  intro i
  by_cases h : i < ((List.range n).filter b).length
  · rw [tab_get h, List.getElem?_map, List.getElem?_eq_getElem h]
    simp [List.getD, List.getElem?_eq_getElem h]
  · rw [List.getElem?_eq_none (by rw [List.length_map]; omega), List.getElem?_eq_none (by rw [tab_len]; omega)]
section
variable {P : Program} {w : World} {K : PySem.W.Frag} {mg : Str → Option Value} {base : Heap}
abbrev tabO (n : Nat) (S : Nat → Option Int) : List V := tab n fun i => oV (S i)
abbrev tabN (n : Nat) (S : Nat → Option Nat) : List V := tab n fun i => oN (S i)
/-- the greatest sums to the goal and the next doors -/
def BS2 (K : PySem.W.Frag) (n : Nat) (w : Gr) (goal : Nat) : V → Hp → Prop := fun v H' => ∃ q sA fA S F τ, v = .ref q ∧ SqT K H' q [.ref sA, .ref fA] ∧ SqL K H' sA (tabO n S) ∧ SqL K H' fA (tabN n F) ∧ Best n w goal S F τ
def spSumsTo (K : PySem.W.Frag) : Sp := fun vs H Q _ => ∃ (n : Nat) (a : Addr) (w : Gr) (goal : Nat) (p : Nat → Int), vs = [.ref a, .int (goal : Int)] ∧ LL K H a n n (oI w) ∧ goal < n ∧ n ≤ 1000 ∧ (∀ x, w x x = none) ∧
  (∀ x y g, x < n → y < n → x ≠ goal → w x y = some g → p x + g ≤ p y) ∧ Ret (BS2 K n w goal) H Q
theorem cal_sums_to (T : Txt K mg) : Cal P w K mg base 1 "sums_to" ["gains", "goal"] (spSumsTo K) := by
  refine T.sums_to.cal sc_sums_to (fun vs H Q E h => ?_) (fun f cdv A outer s H vs Q E hr h => ⟨_, d_sums_to T.B hr, ?_⟩)
  · obtain ⟨n, a, w, goal, p, rfl, _⟩ := h; rfl
  obtain ⟨n, a, u, goal, p, rfl, hg, hgl, hn, hw, hp, q⟩ := h
  unfold t_sums_to
  refine q_asg (v := .int (n : Int)) (by walk_at "va") ?_
  refine q_asgA (al_rep (n := n) (v := .non) (by walk_at "vs") (fun H1 _ => by walk_at "va") (by omega)) fun v H1 S1 ⟨sA, ev, ns, hs1⟩ => ?_
  subst ev
  refine q_asgA (al_rep (n := n) (v := .non) (by walk_at "vs") (fun H1 _ => by walk_at "va") (by omega)) fun v H2 S2 ⟨fA, ev, nf1, hf2⟩ => ?_
  subst ev
  have nf : H fA = none := S1.none nf1
  have nsf : sA ≠ fA := ne_of_none hs1 nf1
  refine q_setL (j := goal) (n := n) va_c (va_var rfl) (va_var rfl) (S2 _ _ hs1) hgl ?_
  have S3 : Same H (upd H2 sA (.lst (tab n (up (fun _ => .non) goal (.int 0))))) := same_mut (S1.trans S2) ns
  have e1 : upd H2 sA (.lst (tab n (up (fun _ => .non) goal (.int 0)))) sA = some (.lst (tabO n (sfirst goal).S)) := by
    rw [upd_same]
    exact congrArg (fun l => some (HO.lst l)) (tab_up (f := fun _ => (none : Option Int)) (g := oV) (v := some 0))
  have e2 : upd H2 sA (.lst (tab n (up (fun _ => .non) goal (.int 0)))) fA = some (.lst (tabN n (sfirst goal).F)) := by
    rw [upd_ne (Ne.symm nsf)]; exact hf2
  generalize upd H2 sA (.lst (tab n (up (fun _ => .non) goal (.int 0)))) = H3 at S3 e1 e2 ⊢
  refine q_asgA (al_lcF (fun x => !decide (x = goal)) (fun i => .int (i : Int)) (src_R (n := n) (by walk_at "vs") (by omega)) (fun _ => rfl) (by omega)
    (fun i H1 hi S => at_vt (vt_is (vt_test (by walk_at "va")) (by rw [show decide ((i : Int) = (goal : Int)) = decide (i = goal) by simp [Int.ofNat_inj]]))) fun i H1 hi S _ => al_va (va_var rfl)) fun v H4 S4 ⟨oA, ev, no, ho⟩ => ?_
  subst ev
  rw [given_tab] at ho
  have hoth : ((List.range n).filter fun x => !decide (x = goal)) = others n goal := rfl
  rw [hoth] at ho
  refine q_asg (v := .bl true) va_c ?_
  obtain ⟨N, hN⟩ := sseq_ends hw hp hgl
  let ST : RS → Option V → Option V → List (Option V) → Hp → Prop := fun s v5 v8 σ H' => σ = [some (.ref a), some (.int (goal : Int)), some (.int (n : Int)), some (.ref sA), some (.ref fA), v5, some (.ref oA), some (.bl s.C), v8] ∧
    Same H H' ∧ H' sA = some (.lst (tabO n s.S)) ∧ H' fA = some (.lst (tabN n s.F)) ∧ H' oA = some (.lst (tab (others n goal).length fun k => .int (((others n goal).getD k 0 : Nat) : Int)))
  have hoA : H oA = none ∧ oA ≠ sA ∧ oA ≠ fA := by
    refine ⟨S3.none no, fun z => ?_, fun z => ?_⟩
    · rw [z, e1] at no; cases no
    · rw [z, e2] at no; cases no
  refine q_while (fun m σ' H' => ∃ k v5 v8, m + k = N + 1 ∧ ST (itr (sturn u n goal) k (sfirst goal)) v5 v8 σ' H') (N + 1) ⟨0, _, _, rfl, rfl, S3.trans S4, S4 _ _ e1, S4 _ _ e2, ho⟩ fun m σ' H' ⟨k, v5, v8, em, es, S, e1, e2, e3⟩ => ?_
  subst es
  refine ⟨(itr (sturn u n goal) k (sfirst goal)).C, vt_B (va_var rfl), fun hC => ?_, fun hC => ?_⟩
  · have hkN : k ≠ N + 1 := fun z => by subst z; rw [hN] at hC; cases hC
    refine ⟨fun σ2 H2 => ∃ v5 v8, ST (itr (sturn u n goal) (k + 1) (sfirst goal)) v5 v8 σ2 H2, fun σ2 H2 ⟨v5, v8, h⟩ => ⟨m - 1, by omega, k + 1, v5, v8, by omega, h⟩, ?_⟩
    have et : itr (sturn u n goal) (k + 1) (sfirst goal) = sturn u n goal (itr (sturn u n goal) k (sfirst goal)) := rfl
    rw [et]
    generalize itr (sturn u n goal) k (sfirst goal) = s0 at e1 e2 ⊢
    refine q_asg (v := .bl false) va_c ?_
    refine st_forL (n := (others n goal).length) (f := fun k => .int (((others n goal).getD k 0 : Nat) : Int)) (va_var rfl) (fun j σ' H' => ∃ v5 v8, ST (spass u n goal j { s0 with C := false }) v5 v8 σ' H') ⟨v5, v8, rfl, S, e1, e2, e3⟩ (fun j σ' H' ⟨v5, v8, h⟩ => SqL.of h.2.2.2.2) (fun j σ' H' hj ⟨v5, v8, es, S, e1, e2, e3⟩ => ?_) (fun σ' H' h => h)
    subst es
    obtain ⟨hx, hxg⟩ := others_get hj
    have eb : spass u n goal (j + 1) { s0 with C := false } = srow u ((others n goal).getD j 0) n (spass u n goal j { s0 with C := false }) := rfl
    rw [eb]
    generalize (others n goal).getD j 0 = x at hx hxg ⊢
    generalize spass u n goal j { s0 with C := false } = s1 at e1 e2 ⊢
    refine st_forR (n := n) (by walk_at "vs") (by omega) (fun y σ' H' => ∃ v8, ST (srow u x y s1) (some (.int (x : Int))) v8 σ' H') ⟨v8, rfl, S, e1, e2, e3⟩ (fun y σ' H' hy ⟨v8, es, S, e1, e2, e3⟩ => ?_) (fun σ' H' ⟨v8, h⟩ => ⟨_, v8, h⟩)
    subst es
    have ec : srow u x (y + 1) s1 = rel (rev u) y x (srow u x y s1) := rfl
    rw [ec]
    generalize srow u x y s1 = s at e1 e2 ⊢
    have hg' := S.ll hg
    have done : ∀ {σ' : L2.St}, rel (rev u) y x s = s → σ' = [some (.ref a), some (.int (goal : Int)), some (.int (n : Int)), some (.ref sA), some (.ref fA), some (.int (x : Int)), some (.ref oA), some (.bl s.C), some (.int (y : Int))] → ∃ v8, ST (rel (rev u) y x s) (some (.int (x : Int))) v8 σ' H' := fun er e => by
      rw [er]; exact ⟨_, e, S, e1, e2, e3⟩
    cases c : u x y with
    | none =>
      exact q_ifT (vt_or1 (vt_test (va_op (va_is (va_LL hg' (va_var rfl) (va_var rfl) (va_var rfl) hx hy) (oV_none c)) va_c vr_isNn))) (done (by unfold rel rev; rw [c]) rfl)
    | some g =>
      cases c2 : s.S y with
      | none =>
        exact q_ifT (vt_orF (vt_test (va_op (va_is (va_LL hg' (va_var rfl) (va_var rfl) (va_var rfl) hx hy) (oV_some c)) va_c vr_isNi)) (vt_test (va_op (va_is (va_op (va_var rfl) (va_var rfl) (vr_xHl e1 hy)) (oV_none c2)) va_c vr_isNn))) (done (by unfold rel rev; rw [c, c2]) rfl)
      | some cv =>
        refine q_ifFn (vt_orF (vt_test (va_op (va_is (va_LL hg' (va_var rfl) (va_var rfl) (va_var rfl) hx hy) (oV_some c)) va_c vr_isNi)) (vt_test (va_op (va_is (va_op (va_var rfl) (va_var rfl) (vr_xHl e1 hy)) (oV_some c2)) va_c vr_isNi))) ?_
        have vg : ∀ σ, σ[0]? = some (some (V.ref a)) → σ[5]? = some (some (V.int (x : Int))) → σ[8]? = some (some (V.int (y : Int))) → σ[3]? = some (some (V.ref sA)) → Va (tOp rAdd (tOp (rIx K) (tOp (rIx K) (tVar 0) (tVar 5)) (tVar 8)) (tOp (rIx K) (tVar 3) (tVar 8))) σ H' (.int (g + cv)) := fun σ h0 h6 h7 h3 =>
          va_op (va_is (va_LL hg' (va_var h0) (va_var h6) (va_var h7) hx hy) (oV_some c)) (va_is (va_op (va_var h3) (va_var h7) (vr_xHl e1 hy)) (oV_some c2)) vr_add
        have upds : ∀ {D : Ends} {σ' : L2.St}, (∀ σ'' H'', (∃ v8, ST (rel (rev u) y x s) (some (.int (x : Int))) v8 σ'' H'') → D.nx σ'' H'') → rel (rev u) y x s = ⟨up s.S x (some (cv + g)), up s.F x (some y), true⟩ → σ' = [some (.ref a), some (.int (goal : Int)), some (.int (n : Int)), some (.ref sA), some (.ref fA), some (.int (x : Int)), some (.ref oA), some (.bl s.C), some (.int (y : Int))] →
            tSeq (tAsg (tOp rAdd (tOp (rIx K) (tOp (rIx K) (tVar 0) (tVar 5)) (tVar 8)) (tOp (rIx K) (tVar 3) (tVar 8))) (gSub (tVar 3) (tVar 5) rSetL)) (tSeq (tAsg (tVar 8) (gSub (tVar 4) (tVar 5) rSetL)) (tAsg (tC (.bl true)) (gName 7)))
              D σ' H' := fun hD er e => by
          subst e
          refine q_setL (j := x) (vg _ rfl rfl rfl rfl) (va_var rfl) (va_var rfl) e1 hx ?_
          refine q_setL (j := x) (va_var rfl) (va_var rfl) (va_var rfl) (show upd H' sA _ fA = _ by rw [upd_ne (Ne.symm nsf)]; exact e2) hx ?_
          refine st_asg va_c (hD _ _ ?_)
          rw [er]
          refine ⟨_, rfl, same_mut (same_mut S ns) nf, ?_, ?_, ?_⟩
          · rw [upd_ne nsf, upd_same, Int.add_comm g cv]
            exact congrArg (fun l => some (HO.lst l)) (tab_up (g := oV) (v := some (cv + g)))
          · rw [upd_same]
            exact congrArg (fun l => some (HO.lst l)) (tab_up (g := oN) (v := some y))
          · rw [upd_ne hoA.2.2, upd_ne hoA.2.1]; exact e3
        cases c3 : s.S x with
        | none =>
          refine st_ifT (vt_or1 (vt_test (va_op (va_is (va_op (va_var rfl) (va_var rfl) (vr_xHl e1 hx)) (oV_none c3)) va_c vr_isNn))) ?_
          exact upds (fun _ _ h => h) (by unfold rel rev; rw [c, c2]; show (match s.S x with | none => _ | some d => _) = _; rw [c3]) rfl
        | some d =>
          have er : rel (rev u) y x s = if d < cv + g then ⟨up s.S x (some (cv + g)), up s.F x (some y), true⟩ else s := by unfold rel rev; rw [c, c2]; show (match s.S x with | none => _ | some d => _) = _; rw [c3]
          refine st_if (b := decide (d < g + cv)) (vt_orF (vt_test (va_op (va_is (va_op (va_var rfl) (va_var rfl) (vr_xHl e1 hx)) (oV_some c3)) va_c vr_isNi)) (vt_test (va_op (vg _ rfl rfl rfl rfl) (va_is (va_op (va_var rfl) (va_var rfl) (vr_xHl e1 hx)) (oV_some c3)) vr_gt))) (fun hb => ?_) (fun hb => ?_)
          · exact upds (fun _ _ h => h) (by rw [er, if_pos (by have := of_decide_eq_true hb; omega)]) rfl
          · exact done (by rw [er, if_neg (by have := of_decide_eq_false hb; omega)]) rfl
  · obtain ⟨τ, hB⟩ := sseq_best hw hp hgl hC
    refine st_retA (al_tup (vs := [.ref sA, .ref fA]) (by walk_at "vs")) fun v H5 S5 ⟨qq, ev, _, hq⟩ => q v H5 (S.trans S5) ⟨qq, sA, fA, _, _, τ, ev, SqT.of hq, SqL.of (S5 _ _ e1), SqL.of (S5 _ _ e2), hB⟩
end
end K45
set_option Elab.async false
set_option linter.all false
set_option maxRecDepth 100000
set_option maxHeartbeats 1000000
namespace PySem
open Sem (wp)
open AutoSeq1 (wpAny_loadPart')
/-! ### enumerate(a tuple) -/
theorem k45_enumT_new (a : Addr) (its : Array Value) :
    Meets (Builtin.«enumerate.__new__» ⟨[.type "enumerate", .ref a], []⟩) (fun _ R s => s.heap.IsTuple a its ∧
      R (.ok (.ret (.ref (s.heap.push { cls := .type "tuple_iterator", data := .fields #[.ref a, .int 0 0] }).objs.size)))
        { s with heap := (s.heap.push { cls := .type "tuple_iterator", data := .fields #[.ref a, .int 0 0] }).push { cls := .type "enumerate", data := .fields #[.none, .bool false, .ref s.heap.objs.size, rawInt 0, .none, .none] } }) :=
  .of_wp fun prog w A R s h => by
    obtain ⟨hp, g, d, tk, os⟩ := s
    obtain ⟨hT, h⟩ := h
    have hsub := sub_enumerate
    have go : ∀ {A' : Around} {E' : Value → Shared → Prop} {Q' : Value → Shared → Prop}, Q' (.ref hp.objs.size) ⟨hp.push { cls := .type "tuple_iterator", data := .fields #[.ref a, .int 0 0] }, g, d, tk, os⟩ → wpAny (model prog w) A' (pyIter (.ref a)) Q' E' ⟨hp, g, d, tk, os⟩ := fun q => wpAny_pyIter_tuple hT q
    wp_walk using go
    refine wpAny_stack_any fun st => wpAny_pure ?_
    split
    · rename_i c _ _ _ _ _
      cases (c == Value.type "enumerate")
      · wp_walk using go
        exact ⟨_, rfl, h⟩
      · wp_walk using go
        exact ⟨_, rfl, h⟩
    · wp_walk using go
      exact ⟨_, rfl, h⟩
theorem k45_call_enumT {prog : Program} {w : World} {A : Around} {E : Value → Shared → Prop} {s : Shared} {a : Addr} {its : Array Value} {Q : Value → Shared → Prop} (hT : s.heap.IsTuple a its)
    (h : ∀ h', IsEnum h' (s.heap.objs.size + 1) s.heap.objs.size 0 .none → h'.IsTupleIter s.heap.objs.size a 0 → (∀ b o, s.heap.get? b = some o → h'.get? b = some o) → Q (.ref (s.heap.objs.size + 1)) { s with heap := h' }) :
    wpAny (model prog w) A (call (.type "enumerate") [.ref a]) Q E s := by
  refine callType_new F.called_enumerate (by decide) (F.typeCall_enumerate_1 _) (F.newCall_enumerate_1 _) (fun obj => F.args_object_init_2 obj _) F.entry_enumerate_new (k45_enumT_new a its) ⟨hT, ?_⟩
  have hz : (s.heap.push { cls := .type "tuple_iterator", data := .fields #[.ref a, .int 0 0] }).objs.size = s.heap.objs.size + 1 := Heap.size_push ..
  show _ ∧ _
  rw [hz]
  have he : IsEnum ((s.heap.push { cls := .type "tuple_iterator", data := .fields #[.ref a, .int 0 0] }).push { cls := .type "enumerate", data := .fields #[.none, .bool false, .ref s.heap.objs.size, rawInt 0, .none, .none] }) (s.heap.objs.size + 1) s.heap.objs.size 0 .none := by
    have q := Heap.get?_push_size (s.heap.push { cls := .type "tuple_iterator", data := .fields #[.ref a, .int 0 0] }) (o := { cls := .type "enumerate", data := .fields #[.none, .bool false, .ref s.heap.objs.size, rawInt 0, .none, .none] }) rfl
    rw [hz] at q
    exact q
  exact ⟨⟨_, he, rfl⟩, h _ he ⟨_, Heap.get?_push_of_some _ (Heap.get?_push_size _ rfl), rfl, rfl⟩ fun b o x => Heap.get?_push_of_some _ (Heap.get?_push_of_some _ x)⟩
end PySem
namespace K45
open PySem PySem.Spec PyProof.Rows L2
/-- the tuple at a, each item in a new pair -/
def IteT (K : PySem.W.Frag) (a : Addr) : It :=
  ⟨fun i H => ∃ (xs : List V) (x : V), SqT K H a xs ∧ xs[i]? = some x, fun i H v H' => ∃ T x, v = .ref T ∧ H T = none ∧ H' = upd H T (.tup [.int (i : Nat), x]) ∧ ∀ xs, SqT K H a xs → xs[i]? = some x, fun i H => ∃ xs : List V, SqT K H a xs ∧ xs.length = i⟩
theorem k_turn_enumT {P : Program} {w : World} {K : PySem.W.Frag} {elts : List Expr} {kk : Nat} {tpos : Pos} (a e it : Addr) :
    Turn P w K (.Tuple elts kk tpos) (IteT K a) [e, it] e (fun i h => (∃ old, IsEnum h e it (0 + (i : Nat) : Int) old) ∧ h.IsTupleIter it a i ∧ e ≠ it ∧ a ≠ e ∧ a ≠ it) where
  mem := by simp
  obj := fun i h st b hb => by
    obtain ⟨⟨old, he⟩, ⟨o, ho, hc, hd⟩, _⟩ := st
    rcases List.mem_cons.mp hb with z | z
    · rw [z]; exact ⟨_, he, fun v q => nomatch q⟩
    · rw [List.mem_singleton.mp z]; exact ⟨o, ho, fun v q => by rw [hd] at q; cases q⟩
  keep := fun i h h' st k => let ⟨⟨old, he⟩, hi, r⟩ := st; ⟨⟨old, k e (by simp) _ he⟩, hi.at fun o q => k it (by simp) o q, r⟩
  item := by
    intro X hP hw hK hc i pins s σ H E I hf st hg
    subst hP hw hK
    obtain ⟨⟨old, he⟩, hit, hne, hae, hai⟩ := st
    obtain ⟨xs, x, hq, hx⟩ := hg
    obtain ⟨its, rv, p, hz⟩ := I.tuple hq
    obtain ⟨u, hu, ru⟩ := rv.get hx
    have hel : e < s.heap.objs.size := Heap.lt_size he
    have hil : it < s.heap.objs.size := by obtain ⟨_, q, _⟩ := hit; exact Heap.lt_size q
    have hlt : i < its.toArray.size := by have := (List.getElem?_eq_some_iff.mp hu).1; simpa using this
    refine wpAny_pyNext_enum_itemC (Draws.tuple (prog := X.prog) (w := X.w) (A := X.A.in1) (I.ok.hd hc) it a hai its.toArray) he ⟨hit, p⟩ hlt hne (by simp only [List.mem_cons, List.not_mem_nil, or_false, not_or]; exact ⟨hne, Ne.symm hae⟩) fun y h' tk hy ho hst' hT hsz hk => ?_
    have ey : y = u := by
      have h1 : its.toArray[i]? = some y := hy
      have h2 : its.toArray[i]? = some u := by simpa using hu
      rw [h1] at h2
      exact Option.some.inj h2
    subst ey
    refine ⟨_, rfl, wpAny_letOwnedTupleGo_enum (s := { s with heap := h', toks := tk + 1 }) ho fun h'' he' sb => ?_⟩
    have hT2 : h''.get? s.heap.objs.size = some { cls := .type "tuple", data := .seq #[.int (0 + (i : Int)) tk, y] } := (sb.2 _ (Nat.ne_of_gt hel)).trans hT
    have new : ObjOk X.prog X.w (upd H s.heap.objs.size (.tup [.int (i : Nat), x])) h'' s.heap.objs.size (.tup [.int (i : Nat), x]) :=
      ⟨by show 2 ≤ sizeLine; decide, [.int (0 + (i : Int)) tk, y], .cons ⟨tk, by rw [Int.zero_add]⟩ (.cons ru .nil), ⟨_, hT2, rfl, _, rfl⟩⟩
    have I1 : Inv X pins σ (upd H s.heap.objs.size (.tup [.int (i : Nat), x])) { s with heap := h'', toks := tk + 1 } :=
      I.turnedNew (ch := [e, it]) (fun b ob hb q => (sb.2 b (fun z => hb (by simp [z]))).trans (hk b ob (fun z => hb (by simp [z])) (fun z => hb (by simp [z])) q)) hf (Nat.le_refl _) new
    refine ⟨.ref s.heap.objs.size, _, I1, rfl, ⟨_, x, rfl, I.hok.fresh (Nat.le_refl _), rfl, fun ys hy => by rw [I.tuple_inj hy hq]; exact hx⟩, ⟨⟨y, ?_⟩, hst'.1.at fun o q => (sb.2 it (Ne.symm hne)).trans q, hne, hae, hai⟩, fun b hb => ?_⟩
    · have e1 : (0 + ((i + 1 : Nat) : Int)) = 0 + (i : Int) + 1 := by omega
      rw [e1]; exact he'
    · have hb' : b < s.heap.objs.size := by
        rcases List.mem_cons.mp hb with z | z
        · rw [z]; exact hel
        · rw [List.mem_singleton.mp z]; exact hil
      rw [upd_ne (Nat.ne_of_lt hb')]
      exact (hf b hb).1
  done := by
    intro X hP hw hK hc i pins s σ H E I hf st hg
    subst hP hw hK
    obtain ⟨⟨old, he⟩, hit, hne, hae, hai⟩ := st
    obtain ⟨xs, hq, hx⟩ := hg
    obtain ⟨its, rv, p, hz⟩ := I.tuple hq
    obtain ⟨f0, f1, f2, f3, f4, f5⟩ := hf it (by simp)
    have hl := rv.length
    have hi : i = its.toArray.size := by rw [List.size_toArray, ← hl]; exact hx.symm
    subst hi
    exact wpAny_pyNext_enum_endD (Draws.tuple (prog := X.prog) (w := X.w) (A := X.A.in1) (I.ok.hd hc) it a hai its.toArray) he ⟨hit, p⟩ fun h' eb => ⟨rfl, I.turned (t' := s.toks) (fun b o hb q => eb b o hb q) f0 f1 f3 f4 f5⟩
  self := fun A i s Q E st h => let ⟨⟨_, he⟩, _⟩ := st; wpAny_pyIter_enum he h
def iEnumT (K : PySem.W.Frag) (ta : TA) : TI := fun σ H R => ta σ H fun vs H1 => ∃ a xs, vs = [.ref a] ∧ SqT K H1 a xs ∧ R (IteT K a) H1
theorem pi_enumT {X : Cx} {e : Expr} {ta : TA} {p pos tpos : Pos} {elts : List Expr} {kk : Nat} (hg : Gl X "enumerate") (hm : X.mg "enumerate" = none) (ha : PA X [e] ta) (hs : starEach [e] X.env = [(false, eval e X.env)] := by rfl) :
    PI X (.Tuple elts kk tpos) (.Call (.Name "enumerate" p) [e] [] pos) (iEnumT X.K ta) := by
  refine ⟨fun pins s σ H R I h => ?_⟩
  refine Call_ (ld_blt I hg hm boot_enumerate (PyProof.Rows.callWith_type1 (thn (ha.run pos pins s σ H _ I h) fun us s1 ⟨vs, H1, I1, r1, q1⟩ => ?_) hs rfl))
  obtain ⟨a, xs, ex, hq, q⟩ := q1
  subst ex
  rw [Vals.ref1 r1]
  obtain ⟨its, rv, p', hz⟩ := I1.tuple hq
  have hlt : a < s1.heap.objs.size := by obtain ⟨o, ho, _⟩ := id p'; exact Heap.lt_size ho
  refine k45_call_enumT (show s1.heap.IsTuple a its.toArray from p') fun h' he hit hk => wpAny_pyIter_enum he ?_
  refine ⟨s1.heap.objs.size + 1, [s1.heap.objs.size + 1, s1.heap.objs.size], _, _, H1, rfl, I1.kept (t' := s1.toks) hk, k_turn_enumT a (s1.heap.objs.size + 1) s1.heap.objs.size, ⟨⟨.none, he⟩, hit, Nat.succ_ne_self _, by show a ≠ s1.heap.objs.size + 1; exact Nat.ne_of_lt (Nat.lt_succ_of_lt hlt), Nat.ne_of_lt hlt⟩, fun b hb => ?_, q⟩
  have hle : s1.heap.objs.size ≤ b := by
    rcases List.mem_cons.mp hb with z | z
    · rw [z]; exact Nat.le_add_right _ _
    · rw [List.mem_singleton.mp z]; exact Nat.le_refl _
  exact I1.fpOk hle (I1.hok.fresh hle)
end K45
set_option Elab.async false
set_option linter.all false
set_option maxRecDepth 100000
set_option maxHeartbeats 1000000
namespace K45
open PySem PySem.Spec PyProof.Rows L2
section
variable {K : PySem.W.Frag} {σ : St} {H : Hp} {ta te : TE} {D : Ends} {tu tz : TS} {n i j : Nat} {f : Nat → V} {vs : List Nat}
theorem g_pair {T : Addr} {x y : V} {Q : St → Hp → Prop} (h : SqT K H T [x, y]) (q : Q ((σ.set i (some x)).set j (some y)) H) : gTup K 2 (gCons (gName i) (gCons (gName j) gNil)) (.ref T) σ H Q :=
  ⟨T, [x, y], rfl, h, rfl, x, [y], rfl, y, [], rfl, rfl, q⟩
theorem g_three {k : Nat} {T : Addr} {x y z : V} {Q : St → Hp → Prop} (h : SqT K H T [x, y, z]) (q : Q (((σ.set i (some x)).set j (some y)).set k (some z)) H) : gTup K 3 (gCons (gName i) (gCons (gName j) (gCons (gName k) gNil))) (.ref T) σ H Q :=
  ⟨T, [x, y, z], rfl, h, rfl, x, [y, z], rfl, y, [z], rfl, z, [], rfl, rfl, q⟩
/-- a, b = e -/
theorem st_asg2 {P : V → Hp → Prop} (h : Al te σ H P) (k : ∀ v H1, Same H H1 → P v H1 → ∃ T x y, v = .ref T ∧ SqT K H1 T [x, y] ∧ D.nx ((σ.set i (some x)).set j (some y)) H1) : tAsg te (gTup K 2 (gCons (gName i) (gCons (gName j) gNil))) D σ H :=
  h _ fun v H1 S p => by
    obtain ⟨T, x, y, rfl, hT, q⟩ := k v H1 S p
    exact g_pair hT q
theorem q_asg2 {P : V → Hp → Prop} (h : Al te σ H P) (k : ∀ v H1, Same H H1 → P v H1 → ∃ T x y, v = .ref T ∧ SqT K H1 T [x, y] ∧ tz D ((σ.set i (some x)).set j (some y)) H1) : tSeq (tAsg te (gTup K 2 (gCons (gName i) (gCons (gName j) gNil)))) tz D σ H := st_asg2 (D := { D with nx := tz D }) h k
/-- for i, x in enumerate(a list) -/
theorem st_forE {a : Addr} (h : Va ta σ H (.ref a)) (Pv : Nat → St → Hp → Prop) (h0 : Pv 0 σ H) (hl : ∀ k σ' H', Pv k σ' H' → SqL K H' a (tab n f))
    (hs : ∀ k σ' H' H2, k < n → Pv k σ' H' → Same H' H2 → tu { D with nx := Pv (k + 1), ct := Pv (k + 1), bk := D.nx } ((σ'.set i (some (.int (k : Int)))).set j (some (f k))) H2) (hd : ∀ σ' H', Pv n σ' H' → D.nx σ' H') :
    tFor (iEnum K (tCons ta tNil)) (gTup K 2 (gCons (gName i) (gCons (gName j) gNil))) tu D σ H :=
  h _ ⟨a, _, rfl, hl 0 σ H h0, for_it (walk_enum (K := K) (a := a) (xs := tab n f)) Pv h0 (fun k σ' H' _ p => hl k σ' H' p) (fun k x σ' H' H2 hk p y => by
    rw [tab_len] at hk
    obtain ⟨T, u, v, rfl, hT, rfl, e1, e2⟩ := y
    cases e1
    have e3 : (tab n f)[k]? = some v := e2
    rw [tab_get hk] at e3
    cases e3
    exact g_pair (SqT.of upd_same) (hs k σ' H' _ hk p (same_new hT))) (fun σ' H' p => hd σ' H' (by rw [tab_len] at p; exact p))⟩
theorem walk_enumT {a : Addr} {xs : List V} : Walk (IteT K a) xs.length (fun H => SqT K H a xs) (YPair (fun i => some (.int (i : Nat))) (fun i => xs[i]?)) := by
  refine ⟨fun i _ hi q => ⟨xs, xs[i], q, by simp [hi]⟩, fun _ q => ⟨xs, q, rfl⟩, fun i H v H' _ q y => ?_⟩
  obtain ⟨T, x, h1, h2, h3, h4⟩ := y
  exact ⟨T, .int (i : Nat), x, h1, h2, h3, rfl, h4 xs q⟩
/-- for i, x in enumerate(a tuple) -/
theorem st_forET {a : Addr} (h : Va ta σ H (.ref a)) (Pv : Nat → St → Hp → Prop) (h0 : Pv 0 σ H) (hl : ∀ k σ' H', Pv k σ' H' → SqT K H' a (tab n f))
    (hs : ∀ k σ' H' H2, k < n → Pv k σ' H' → Same H' H2 → tu { D with nx := Pv (k + 1), ct := Pv (k + 1), bk := D.nx } ((σ'.set i (some (.int (k : Int)))).set j (some (f k))) H2) (hd : ∀ σ' H', Pv n σ' H' → D.nx σ' H') :
    tFor (iEnumT K (tCons ta tNil)) (gTup K 2 (gCons (gName i) (gCons (gName j) gNil))) tu D σ H :=
  h _ ⟨a, _, rfl, hl 0 σ H h0, for_it (walk_enumT (K := K) (a := a) (xs := tab n f)) Pv h0 (fun k σ' H' _ p => hl k σ' H' p) (fun k x σ' H' H2 hk p y => by
    rw [tab_len] at hk
    obtain ⟨T, u, v, rfl, hT, rfl, e1, e2⟩ := y
    cases e1
    have e3 : (tab n f)[k]? = some v := e2
    rw [tab_get hk] at e3
    cases e3
    exact g_pair (SqT.of upd_same) (hs k σ' H' _ hk p (same_new hT))) (fun σ' H' p => hd σ' H' (by rw [tab_len] at p; exact p))⟩
theorem q_forE {a : Addr} (h : Va ta σ H (.ref a)) (Pv : Nat → St → Hp → Prop) (h0 : Pv 0 σ H) (hl : ∀ k σ' H', Pv k σ' H' → SqL K H' a (tab n f))
    (hs : ∀ k σ' H' H2, k < n → Pv k σ' H' → Same H' H2 → tu { D with nx := Pv (k + 1), ct := Pv (k + 1), bk := tz D } ((σ'.set i (some (.int (k : Int)))).set j (some (f k))) H2) (hd : ∀ σ' H', Pv n σ' H' → tz D σ' H') :
    tSeq (tFor (iEnum K (tCons ta tNil)) (gTup K 2 (gCons (gName i) (gCons (gName j) gNil))) tu) tz D σ H := st_forE (D := { D with nx := tz D }) h Pv h0 hl hs hd
theorem q_forET {a : Addr} (h : Va ta σ H (.ref a)) (Pv : Nat → St → Hp → Prop) (h0 : Pv 0 σ H) (hl : ∀ k σ' H', Pv k σ' H' → SqT K H' a (tab n f))
    (hs : ∀ k σ' H' H2, k < n → Pv k σ' H' → Same H' H2 → tu { D with nx := Pv (k + 1), ct := Pv (k + 1), bk := tz D } ((σ'.set i (some (.int (k : Int)))).set j (some (f k))) H2) (hd : ∀ σ' H', Pv n σ' H' → tz D σ' H') :
    tSeq (tFor (iEnumT K (tCons ta tNil)) (gTup K 2 (gCons (gName i) (gCons (gName j) gNil))) tu) tz D σ H := st_forET (D := { D with nx := tz D }) h Pv h0 hl hs hd
/-- sources of pairs -/
theorem src_pair {ta : TA} {a : Addr} {xs : Nat → V} {wi : TI} {J : It} {G : Hp → Prop} (hw : ∀ R : It → Hp → Prop, R J H → wi σ H R) (hG : ∀ H1, Same H H1 → G H1) {x y : Nat → Option V} (w : Walk J n G (YPair x y)) {f g : Nat → V} (hx : ∀ k, k < n → x k = some (f k)) (hy : ∀ k, k < n → y k = some (g k)) :
    Src wi (gTup K 2 (gCons (gName i) (gCons (gName j) gNil))) vs σ H n (fun k => ((wipe σ vs).set i (some (f k))).set j (some (g k))) := fun R r =>
  hw R (r J H (Same.refl H) (fun k H' S hk => w.goes k H' hk (hG H' S)) (fun H' S => w.stops H' (hG H' S)) fun k H' v H2 S hk yl => by
    obtain ⟨T, u1, u2, rfl, hT, rfl, e1, e2⟩ := w.yields k H' v H2 hk (hG H' S) yl
    rw [hx k hk] at e1
    rw [hy k hk] at e2
    cases e1
    cases e2
    exact ⟨same_new hT, fun Q q => g_pair (SqT.of upd_same) (q _ (Same.refl _))⟩)
theorem src_E {a : Addr} (h : Va ta σ H (.ref a)) (hl : SqL K H a (tab n f)) : Src (iEnum K (tCons ta tNil)) (gTup K 2 (gCons (gName i) (gCons (gName j) gNil))) vs σ H n (fun k => ((wipe σ vs).set i (some (.int (k : Int)))).set j (some (f k))) :=
  src_pair (ta := tNil) (a := a) (xs := f) (fun R r => h _ ⟨a, _, rfl, hl, r⟩) (fun H1 S => S.l hl) (by have := walk_enum (K := K) (a := a) (xs := tab n f); rw [tab_len] at this; exact this) (fun k _ => rfl) fun k hk => tab_get hk
theorem src_ET {a : Addr} (h : Va ta σ H (.ref a)) (hl : SqT K H a (tab n f)) : Src (iEnumT K (tCons ta tNil)) (gTup K 2 (gCons (gName i) (gCons (gName j) gNil))) vs σ H n (fun k => ((wipe σ vs).set i (some (.int (k : Int)))).set j (some (f k))) :=
  src_pair (ta := tNil) (a := a) (xs := f) (fun R r => h _ ⟨a, _, rfl, hl, r⟩) (fun H1 S => S.t hl) (by have := walk_enumT (K := K) (a := a) (xs := tab n f); rw [tab_len] at this; exact this) (fun k _ => rfl) fun k hk => tab_get hk
theorem src_Z {tb : TE} {a b : Addr} {g : Nat → V} (h : Va ta σ H (.ref a)) (h2 : Va tb σ H (.ref b)) (hl : SqL K H a (tab n f)) (hl2 : SqL K H b (tab n g)) :
    Src (iZip K (tCons ta (tCons tb tNil))) (gTup K 2 (gCons (gName i) (gCons (gName j) gNil))) vs σ H n (fun k => ((wipe σ vs).set i (some (f k))).set j (some (g k))) :=
  src_pair (ta := tNil) (a := a) (xs := f) (fun R r => h _ (h2 _ ⟨a, b, _, _, rfl, hl, hl2, r⟩)) (fun H1 S => ⟨S.l hl, S.l hl2⟩) (walk_zip (K := K) (a := a) (b := b) (xs := tab n f) (ys := tab n g) (by rw [tab_len, tab_len, Nat.min_self])) (fun k hk => tab_get hk) fun k hk => tab_get hk
end
section
variable {K : PySem.W.Frag} {σ : St} {H : Hp} {ta tb te tx ty : TE} {P P2 : V → Hp → Prop} {z v c : V} {r : R2}
theorem al_opc (h : Al te σ H P) (k : ∀ v H1, Same H H1 → P v H1 → ∃ z, Vr r v c H1 z ∧ P2 z H1) : Al (tOp r te (tC c)) σ H P2 := fun Q q =>
  h _ fun v H1 S p => by
    obtain ⟨z, h1, h2⟩ := k v H1 S p
    exact h1 _ (q z H1 S h2)
/-- the second operand evaluated where the first one has left it -/
theorem al_op (ha : Al ta σ H P) (hb : ∀ v H1, Same H H1 → P v H1 → ∃ y z, Va tb σ H1 y ∧ Vr r v y H1 z ∧ P2 z H1) : Al (tOp r ta tb) σ H P2 := fun Q q =>
  ha _ fun v H1 S p => by
    obtain ⟨y, z, h1, h2, h3⟩ := hb v H1 S p
    exact h1 _ (h2 _ (q z H1 S h3))
/-- the first operand plain, the second one made on the way -/
theorem al_opR (ha : Va ta σ H v) (hb : Al tb σ H P) (k : ∀ w H1, Same H H1 → P w H1 → ∃ z, Vr r v w H1 z ∧ P2 z H1) : Al (tOp r ta tb) σ H P2 := fun Q q =>
  ha _ (hb _ fun w H1 S p => by
    obtain ⟨z, h1, h2⟩ := k w H1 S p
    exact h1 _ (q z H1 S h2))
/-- both made on the way -/
theorem al_op2 (ha : Al ta σ H P) (hb : ∀ v H1, Same H H1 → P v H1 → Al tb σ H1 (fun w H2 => ∃ z, Vr r v w H2 z ∧ P2 z H2)) : Al (tOp r ta tb) σ H P2 := fun Q q =>
  ha _ fun v H1 S p => hb v H1 S p _ fun w H2 S2 ⟨z, h1, h2⟩ => h1 _ (q z H2 (S.trans S2) h2)
theorem al_isN (h : Al te σ H P) (k : ∀ v H1, Same H H1 → P v H1 → P2 (.bl (decide (v = .non))) H1) : Al (tOp kIsN te (tC .non)) σ H P2 := al_opc h fun v H1 S p => ⟨_, vr_isN, k v H1 S p⟩
theorem al_notN (h : Al te σ H P) (k : ∀ v H1, Same H H1 → P v H1 → P2 (.bl (!decide (v = .non))) H1) : Al (tOp kNotN te (tC .non)) σ H P2 := al_opc h fun v H1 S p => ⟨_, vr_notN, k v H1 S p⟩
theorem al_not (h : Al te σ H P) (k : ∀ v H1, Same H H1 → P v H1 → ∃ b, v = .bl b ∧ P2 (.bl (!b)) H1) : Al (tNotV te) σ H P2 := fun Q q => h _ fun v H1 S p => by
  obtain ⟨b, e, p2⟩ := k v H1 S p
  exact ⟨b, e, q _ H1 S p2⟩
/-- a test whose answer is told behind it -/
def Aq (t : TT) (σ : St) (H : Hp) (P : Bool → Hp → Prop) : Prop := ∀ Q : Bool → Hp → Prop, (∀ b H', Same H H' → P b H' → Q b H') → t σ H Q
theorem aq_test {p : Bool → Hp → Prop} (h : Al te σ H P) (k : ∀ v H1, Same H H1 → P v H1 → ∃ b, v = .bl b ∧ p b H1) : Aq (tTest te) σ H p := fun Q q => h _ fun v H1 S r => by
  obtain ⟨b, e, r2⟩ := k v H1 S r
  exact ⟨b, e, q b H1 S r2⟩
theorem aq_B {p : Bool → Hp → Prop} (h : Al te σ H P) (k : ∀ v H1, Same H H1 → P v H1 → ∃ b, v = .bl b ∧ p b H1) : Aq (tB te) σ H p := fun Q q => h _ fun v H1 S r => by
  obtain ⟨b, e, r2⟩ := k v H1 S r
  exact ⟨b, e, q b H1 S r2⟩
theorem aq_not {t : TT} {p : Bool → Hp → Prop} (h : Aq t σ H p) : Aq (tNot t) σ H (fun b H1 => p (!b) H1) := fun Q q => h _ fun b H1 S r => q (!b) H1 S (show p (!(!b)) H1 by rw [Bool.not_not]; exact r)
theorem q_ifQ {t : TT} {p : Bool → Hp → Prop} {D : Ends} {tu tw tz : TS} (h : Aq t σ H p) (h1 : ∀ H1, Same H H1 → p true H1 → tu { D with nx := tz D } σ H1) (h2 : ∀ H1, Same H H1 → p false H1 → tw { D with nx := tz D } σ H1) : tSeq (tIfS t tu tw) tz D σ H := h _ fun b H1 S r => by
  cases b with
  | true => exact iteT (h1 H1 S r)
  | false => exact iteF (h2 H1 S r)
theorem q_ifQn {t : TT} {p : Bool → Hp → Prop} {D : Ends} {tu tz : TS} (h : Aq t σ H p) (h1 : ∀ H1, Same H H1 → p true H1 → tu { D with nx := tz D } σ H1) (h2 : ∀ H1, Same H H1 → p false H1 → tz D σ H1) : tSeq (tIfS t tu tNext) tz D σ H := q_ifQ h h1 h2
theorem st_ifQ {t : TT} {p : Bool → Hp → Prop} {D : Ends} {tu tw : TS} (h : Aq t σ H p) (h1 : ∀ H1, Same H H1 → p true H1 → tu D σ H1) (h2 : ∀ H1, Same H H1 → p false H1 → tw D σ H1) : tIfS t tu tw D σ H := h _ fun b H1 S r => by
  cases b with
  | true => exact iteT (h1 H1 S r)
  | false => exact iteF (h2 H1 S r)
/-- a call with its arguments made on the way -/
theorem al_callA {sp : Sp} {tr : TA} {Pa : List V → Hp → Prop} (h : Ac tr σ H Pa) (k : ∀ vs H1, Same H H1 → Pa vs H1 → ∀ (Q : VK) (E : XK), Ret P H1 Q → sp vs H1 Q E) : Al (tCall sp [] E0 tr) σ H P := fun Q q => h _ fun vs H1 S p => by
  rw [List.append_nil]
  exact k vs H1 S p Q _ fun v H2 S2 p2 => q v H2 (S.trans S2) p2
theorem ac_nil : Ac tNil σ H (fun vs _ => vs = []) := fun Q q => q _ _ (Same.refl H) rfl
theorem ac_cons {tr : TA} {Pr : List V → Hp → Prop} {Pa : List V → Hp → Prop} (h : Al te σ H P) (k : ∀ v H1, Same H H1 → P v H1 → Ac tr σ H1 (fun vs H2 => Pa (v :: vs) H2)) : Ac (tCons te tr) σ H Pa := fun Q q =>
  h _ fun v H1 S p => k v H1 S p _ fun vs H2 S2 p2 => q _ H2 (S.trans S2) p2
theorem ac_vs {tr : TA} {vs : List V} (h : Vs tr σ H vs) : Ac tr σ H (fun ws _ => ws = vs) := fun Q q => h _ (q _ _ (Same.refl H) rfl)
/-- d in (x, y) -/
theorem at_in2 {d x y : Int} (hd : Va ta σ H (.int d)) (hx : ∀ H1, Same H H1 → Va tx σ H1 (.int x)) (hy : ∀ H1, Same H H1 → Va ty σ H1 (.int y)) : At (tTest (tOp (rIn K false) ta (tTup (tCons tx (tCons ty tNil))))) σ H (decide (d = x) || decide (d = y)) := fun Q q =>
  hd _ (al_tup (vs := [.int x, .int y]) (vs_cons (hx H (Same.refl H)) (vs_cons (hy H (Same.refl H)) vs_nil)) (show 2 ≤ 100000 by decide) _ fun w H1 S ⟨p, e, hp, ho⟩ => by
    subst e
    refine ⟨p, [.int x, .int y], rfl, .inr (SqT.of ho), rfl, rfl, _, rfl, ?_⟩
    have e : inV (.int d) [.int x, .int y] = (decide (d = x) || decide (d = y)) := by
      show ((x == d) || ((y == d) || false)) = _
      rw [Bool.or_false]
      have h1 : (x == d) = decide (d = x) := by rw [Bool.eq_iff_iff, beq_iff_eq, decide_eq_true_iff]; exact eq_comm
      have h2 : (y == d) = decide (d = y) := by rw [Bool.eq_iff_iff, beq_iff_eq, decide_eq_true_iff]; exact eq_comm
      rw [h1, h2]
    show Q (if false = true then _ else inV (.int d) [.int x, .int y]) H1
    rw [if_neg Bool.false_ne_true, e]
    exact q H1 S)
end
end K45
set_option linter.all false
namespace K45
/-! ### what the judge's functions say -/
def Kept (n : Nat) (g : Gr) (t : Nat → Int) : Prop := ∃ p, Feas n (gn g t) p
def KeptAt (n : Nat) (g : Gr) (t : Nat → Int) (k : Int) : Prop := ∃ p, Feas n (cg n k (gn g t)) p
def cut (w : Gr) (d : Nat) : Gr := fun x y => if d = x ∨ d = y then none else w x y
def KeptO (n : Nat) (g : Gr) (t : Nat → Int) (d : Nat) : Prop := ∃ p, Feas n (cut (gn g t) d) p
theorem cut_self {w : Gr} (h : ∀ x, w x x = none) (d x : Nat) : cut w d x x = none := by unfold cut; split; rfl; exact h x
/-- a potential for all steps that do not leave d -/
theorem cut_pot {n : Nat} {w : Gr} {d : Nat} (h : ∃ p, Feas n (cut w d) p) : ∃ p : Nat → Int, ∀ x y g, x < n → y < n → x ≠ d → w x y = some g → p x + g ≤ p y := by
  obtain ⟨p, hp⟩ := h
  obtain ⟨b, _, hb⟩ := bound_of n (fun x => p x + (w x d).getD 0)
  refine ⟨up p d b, fun x y g hx hy hxd e => ?_⟩
  rw [up_ne hxd]
  by_cases hy' : y = d
  · subst hy'
    rw [up_same]
    have := hb x hx
    rw [e] at this
    exact this
  · rw [up_ne hy']
    refine hp x y hx hy g ?_
    unfold cut
    rw [if_neg (by omega)]
    exact e
/-! ### the best sums are one -/
theorem best_le {n : Nat} {w : Gr} {goal : Nat} {S S' : Nat → Option Int} {F F' : Nat → Option Nat} {τ τ' : Nat → Nat} (h : Best n w goal S F τ) (h' : Best n w goal S' F' τ') :
    ∀ (k x : Nat), τ x ≤ k → x < n → ∀ c, S x = some c → ∃ c', S' x = some c' ∧ c ≤ c' := by
  intro k
  induction k with
  | zero =>
    intro x hk hx c hc
    by_cases e : x = goal
    · subst e; rw [h.at0] at hc; cases hc; exact ⟨0, h'.at0, Int.le_refl _⟩
    · obtain ⟨f, g, v, h1, h2, h3, h4, h5, h6⟩ := h.att x c hx e hc
      omega
  | succ k ih =>
    intro x hk hx c hc
    by_cases e : x = goal
    · subst e; rw [h.at0] at hc; cases hc; exact ⟨0, h'.at0, Int.le_refl _⟩
    · obtain ⟨f, g, v, h1, h2, h3, h4, h5, h6⟩ := h.att x c hx e hc
      obtain ⟨v', e1, e2⟩ := ih f (by omega) h2 v h4
      obtain ⟨c', e3, e4⟩ := h'.fix x f g v' hx h2 e h3 e1
      exact ⟨c', e3, by omega⟩
theorem best_eq {n : Nat} {w : Gr} {goal : Nat} {S S' : Nat → Option Int} {F F' : Nat → Option Nat} {τ τ' : Nat → Nat} (h : Best n w goal S F τ) (h' : Best n w goal S' F' τ') {x : Nat} (hx : x < n) : S x = S' x := by
  cases c : S x with
  | none =>
    cases c' : S' x with
    | none => rfl
    | some v =>
      obtain ⟨u, e, _⟩ := best_le h' h (τ' x) x (Nat.le_refl _) hx v c'
      rw [c] at e; cases e
  | some v =>
    obtain ⟨u, e, l⟩ := best_le h h' (τ x) x (Nat.le_refl _) hx v c
    obtain ⟨u', e', l'⟩ := best_le h' h (τ' x) x (Nat.le_refl _) hx u e
    rw [c] at e'; cases e'
    rw [e]
    exact congrArg some (by omega)
open Classical in
noncomputable def bestS (n : Nat) (w : Gr) (goal : Nat) : Nat → Option Int := if h : ∃ S F τ, Best n w goal S F τ then Classical.choose h else fun _ => none
theorem bestS_is {n : Nat} {w : Gr} {goal : Nat} {S : Nat → Option Int} {F : Nat → Option Nat} {τ : Nat → Nat} (h : Best n w goal S F τ) : ∃ F' τ', Best n w goal (bestS n w goal) F' τ' := by
  have e : ∃ S F τ, Best n w goal S F τ := ⟨S, F, τ, h⟩
  unfold bestS
  rw [dif_pos e]
  exact Classical.choose_spec e
theorem bestS_eq {n : Nat} {w : Gr} {goal : Nat} {S : Nat → Option Int} {F : Nat → Option Nat} {τ : Nat → Nat} (h : Best n w goal S F τ) {x : Nat} (hx : x < n) : S x = bestS n w goal x := by
  obtain ⟨F', τ', h'⟩ := bestS_is h
  exact best_eq h h' hx
theorem best_has {n : Nat} {w : Gr} {goal : Nat} (hw : ∀ x, w x x = none) (hp : ∃ p : Nat → Int, ∀ x y g, x < n → y < n → x ≠ goal → w x y = some g → p x + g ≤ p y) (hg : goal < n) : ∃ F τ, Best n w goal (bestS n w goal) F τ := by
  obtain ⟨p, hp⟩ := hp
  obtain ⟨N, hN⟩ := sseq_ends hw hp hg
  obtain ⟨τ, h⟩ := sseq_best hw hp hg hN
  exact bestS_is h
/-- the room of x for y -/
noncomputable def roomF (n : Nat) (g : Gr) (t : Nat → Int) (x y : Nat) : Option Int := if y = x then some 0 else (bestS n (gn g t) x y).map (fun s => t x - s)
/-- the greatest of the needs seen -/
def nstep (g : Gr) (x : Nat) (S : Nat → Option Int) (y : Nat) (N : Int) : Int := if y = x then N else match g x y, S y with
  | some e, some s => if e + s > N then e + s else N
  | _, _ => N
def nfold (g : Gr) (x : Nat) (S : Nat → Option Int) : Nat → Int
  | 0 => 0
  | k + 1 => nstep g x S k (nfold g x S k)
theorem nfold_ok (g : Gr) (x : Nat) (S : Nat → Option Int) : ∀ k, 0 ≤ nfold g x S k ∧ (∀ y e s, y < k → y ≠ x → g x y = some e → S y = some s → e + s ≤ nfold g x S k) ∧ (nfold g x S k = 0 ∨ ∃ y e s, y < k ∧ y ≠ x ∧ g x y = some e ∧ S y = some s ∧ e + s = nfold g x S k)
  | 0 => ⟨Int.le_refl _, fun y e s hy => absurd hy (Nat.not_lt_zero _), .inl rfl⟩
  | k + 1 => by
    obtain ⟨h0, h1, h2⟩ := nfold_ok g x S k
    show 0 ≤ nstep g x S k (nfold g x S k) ∧ (∀ y e s, y < k + 1 → y ≠ x → g x y = some e → S y = some s → e + s ≤ nstep g x S k (nfold g x S k)) ∧ (nstep g x S k (nfold g x S k) = 0 ∨ ∃ y e s, y < k + 1 ∧ y ≠ x ∧ g x y = some e ∧ S y = some s ∧ e + s = nstep g x S k (nfold g x S k))
    have keep : (∀ e s, k ≠ x → g x k = some e → S k = some s → e + s ≤ nfold g x S k) → nstep g x S k (nfold g x S k) = nfold g x S k → 0 ≤ nstep g x S k (nfold g x S k) ∧ (∀ y e s, y < k + 1 → y ≠ x → g x y = some e → S y = some s → e + s ≤ nstep g x S k (nfold g x S k)) ∧ (nstep g x S k (nfold g x S k) = 0 ∨ ∃ y e s, y < k + 1 ∧ y ≠ x ∧ g x y = some e ∧ S y = some s ∧ e + s = nstep g x S k (nfold g x S k)) := fun hk ek => by
      rw [ek]
      refine ⟨h0, fun y e s hy hyx a b => ?_, h2.imp id fun ⟨y, e, s, hy, r⟩ => ⟨y, e, s, by omega, r⟩⟩
      by_cases q : y = k
      · subst q; exact hk e s hyx a b
      · exact h1 y e s (by omega) hyx a b
    by_cases hkx : k = x
    · exact keep (fun _ _ z => absurd hkx z) (if_pos hkx)
    · cases ea : g x k with
      | none => exact keep (fun e s _ a _ => by rw [ea] at a; cases a) (by unfold nstep; rw [if_neg hkx, ea])
      | some e =>
        cases eb : S k with
        | none => exact keep (fun e s _ _ b => by rw [eb] at b; cases b) (by unfold nstep; rw [if_neg hkx, ea, eb])
        | some s =>
          have es : nstep g x S k (nfold g x S k) = if e + s > nfold g x S k then e + s else nfold g x S k := by unfold nstep; rw [if_neg hkx, ea, eb]
          by_cases c : e + s > nfold g x S k
          · rw [es, if_pos c]
            refine ⟨by omega, fun y e' s' hy hyx a b => ?_, .inr ⟨k, e, s, by omega, hkx, ea, eb, rfl⟩⟩
            by_cases q : y = k
            · subst q; rw [ea] at a; rw [eb] at b; cases a; cases b; exact Int.le_refl _
            · have := h1 y e' s' (by omega) hyx a b; omega
          · exact keep (fun e' s' _ a b => by rw [ea] at a; rw [eb] at b; cases a; cases b; omega) (by rw [es, if_neg c])
theorem nfold_congr {g : Gr} {x : Nat} {S S' : Nat → Option Int} : ∀ {k : Nat}, (∀ y, y < k → S y = S' y) → nfold g x S k = nfold g x S' k
  | 0, _ => rfl
  | k + 1, h => by
    show nstep g x S k (nfold g x S k) = nstep g x S' k (nfold g x S' k)
    rw [nfold_congr (k := k) fun y hy => h y (by omega)]
    unfold nstep
    rw [h k (by omega)]
/-- the least wait that the own rings let -/
noncomputable def needF (n : Nat) (g : Gr) (t : Nat → Int) (x : Nat) : Int := nfold g x (bestS n (gn g t) x) n

theorem Feas.sub {n : Nat} {w w' : Gr} {p : Nat → Int} (h : Feas n w p) (k : ∀ x y g, x < n → y < n → w' x y = some g → w x y = some g) : Feas n w' p := fun x y hx hy g e => h x y hx hy g (k x y g hx hy e)
theorem kept_cut {n : Nat} {g : Gr} {t : Nat → Int} (h : Kept n g t) (d : Nat) : KeptO n g t d := by
  obtain ⟨p, hp⟩ := h
  refine ⟨p, hp.sub fun x y c _ _ e => ?_⟩
  unfold cut at e
  split at e
  · cases e
  · exact e
end K45
set_option linter.all false
namespace K45
/-! ### the chain of next doors, and the ring that it closes -/
structure Chain (n : Nat) (w : Gr) (goal : Nat) (F : Nat → Option Nat) (y k : Nat) (s : Int) : Prop where
  lt : ∀ j, j ≤ k → iter (bk F) j y < n
  ne : ∀ j, j < k → iter (bk F) j y ≠ goal
  nx : ∀ j, j < k → F (iter (bk F) j y) = some (iter (bk F) (j + 1) y)
  hit : iter (bk F) k y = goal
  inj : ∀ i j, i ≤ k → j ≤ k → iter (bk F) i y = iter (bk F) j y → i = j
  arc : ∀ j, j < k → ∃ g, w (iter (bk F) j y) (iter (bk F) (j + 1) y) = some g
  sum : sumN k (fun j => (w (iter (bk F) j y) (iter (bk F) (j + 1) y)).getD 0) = s
theorem iter_shift (f : Nat → Nat) (k v : Nat) : iter f (k + 1) v = iter f k (f v) := by
  rw [Nat.add_comm, iter_add]; rfl
theorem chain_of {n : Nat} {w : Gr} {goal : Nat} {S : Nat → Option Int} {F : Nat → Option Nat} {τ : Nat → Nat} (h : Best n w goal S F τ) (hg : goal < n) :
    ∀ (m y : Nat), τ y ≤ m → y < n → ∀ s, S y = some s → ∃ k, Chain n w goal F y k s ∧ ∀ j, j ≤ k → τ (iter (bk F) j y) ≤ τ y := by
  intro m
  induction m with
  | zero =>
    intro y hm hy s hs
    by_cases e : y = goal
    · subst e
      rw [h.at0] at hs; cases hs
      exact ⟨0, ⟨fun j hj => by rw [Nat.le_zero.mp hj]; exact hy, fun j hj => absurd hj (Nat.not_lt_zero _), fun j hj => absurd hj (Nat.not_lt_zero _), rfl, fun i j hi hj _ => by omega, fun j hj => absurd hj (Nat.not_lt_zero _), rfl⟩, fun j hj => by rw [Nat.le_zero.mp hj]; exact Nat.le_refl _⟩
    · obtain ⟨f, g, v, h1, h2, h3, h4, h5, h6⟩ := h.att y s hy e hs
      omega
  | succ m ih =>
    intro y hm hy s hs
    by_cases e : y = goal
    · subst e
      rw [h.at0] at hs; cases hs
      exact ⟨0, ⟨fun j hj => by rw [Nat.le_zero.mp hj]; exact hy, fun j hj => absurd hj (Nat.not_lt_zero _), fun j hj => absurd hj (Nat.not_lt_zero _), rfl, fun i j hi hj _ => by omega, fun j hj => absurd hj (Nat.not_lt_zero _), rfl⟩, fun j hj => by rw [Nat.le_zero.mp hj]; exact Nat.le_refl _⟩
    · obtain ⟨f, g, v, h1, h2, h3, h4, h5, h6⟩ := h.att y s hy e hs
      obtain ⟨k, c, ct⟩ := ih f (by omega) h2 v h4
      have ef : bk F y = f := by unfold bk; rw [h1]; rfl
      have sh : ∀ j, iter (bk F) (j + 1) y = iter (bk F) j f := fun j => by rw [iter_shift, ef]
      have ny : ∀ j, j ≤ k → iter (bk F) j f ≠ y := fun j hj z => by have := ct j hj; rw [z] at this; omega
      refine ⟨k + 1, ⟨fun j hj => ?_, fun j hj => ?_, fun j hj => ?_, by rw [sh]; exact c.hit, fun i j hi hj z => ?_, fun j hj => ?_, ?_⟩, fun j hj => ?_⟩
      · cases j with
        | zero => exact hy
        | succ j => rw [sh]; exact c.lt j (by omega)
      · cases j with
        | zero => exact e
        | succ j => rw [sh]; exact c.ne j (by omega)
      · cases j with
        | zero => rw [sh]; exact h1
        | succ j => rw [sh, sh]; exact c.nx j (by omega)
      · cases i with
        | zero => cases j with
          | zero => rfl
          | succ j => rw [sh] at z; exact absurd z.symm (ny j (by omega))
        | succ i => cases j with
          | zero => rw [sh] at z; exact absurd z (ny i (by omega))
          | succ j => rw [sh, sh] at z; have := c.inj i j (by omega) (by omega) z; omega
      · cases j with
        | zero => rw [sh]; exact ⟨g, h3⟩
        | succ j => rw [sh, sh]; exact c.arc j (by omega)
      · rw [sumN_shiftl, sh]
        have e2 : sumN k (fun j => (w (iter (bk F) (j + 1) y) (iter (bk F) (j + 1 + 1) y)).getD 0) = v := by
          rw [← c.sum]
          exact sumN_congr fun j _ => by rw [sh, sh]
        rw [e2, h5]
        show (w y f).getD 0 + v = g + v
        rw [h3]; rfl
      · cases j with
        | zero => exact Nat.le_refl _
        | succ j => rw [sh]; have := ct j (by omega); omega
/-- the ring: goal, then the chain from y -/
def cring (goal : Nat) (F : Nat → Option Nat) (y : Nat) : Nat → Nat
  | 0 => goal
  | j + 1 => iter (bk F) j y
theorem cring_ok {n : Nat} {w : Gr} {goal : Nat} {F : Nat → Option Nat} {y k : Nat} {s e : Int} (hg : goal < n) (h : Chain n w goal F y k s) (hy : y ≠ goal) (he : w goal y = some e) :
    IsRing n w (k + 1) (cring goal F y) ∧ rsum w (k + 1) (cring goal F y) = e + s := by
  have k1 : 1 ≤ k := by
    cases k with
    | zero => exact absurd h.hit hy
    | succ k => omega
  have nxt : ∀ i, i < k → cring goal F y ((i + 1 + 1) % (k + 1)) = iter (bk F) (i + 1) y := fun i hi => by
    by_cases c : i + 1 = k
    · rw [c, Nat.mod_self, h.hit]; rfl
    · rw [Nat.mod_eq_of_lt (by omega)]; rfl
  have nx0 : cring goal F y ((0 + 1) % (k + 1)) = y := by rw [Nat.mod_eq_of_lt (by omega)]; rfl
  refine ⟨⟨by omega, fun i hi => ?_, fun i j hi hj z => ?_, fun i hi => ?_⟩, ?_⟩
  · cases i with
    | zero => exact hg
    | succ i => exact h.lt i (by omega)
  · cases i with
    | zero => cases j with
      | zero => rfl
      | succ j => exact absurd z.symm (h.ne j (by omega))
    | succ i => cases j with
      | zero => exact absurd z (h.ne i (by omega))
      | succ j => have := h.inj i j (by omega) (by omega) z; omega
  · cases i with
    | zero => rw [nx0]; exact ⟨e, he⟩
    | succ i => rw [nxt i (by omega)]; exact h.arc i (by omega)
  · unfold rsum
    rw [sumN_shiftl]
    have e2 : sumN k (fun i => (w (cring goal F y (i + 1)) (cring goal F y ((i + 1 + 1) % (k + 1)))).getD 0) = s := by
      rw [← h.sum]
      exact sumN_congr fun i hi => by rw [nxt i hi]; rfl
    rw [e2, nx0]
    show (w goal y).getD 0 + s = e + s
    rw [he]; rfl
end K45
set_option Elab.async false
set_option linter.all false
set_option maxRecDepth 100000
set_option maxHeartbeats 200000
namespace K45
open PySem PySem.Spec PyProof.Rows L2
abbrev s_gains_if_kept : Stmt := topS 19
theorem sc_gains_if_kept : FnScope ["table", "waits", "gains", "ring"] ["table", "waits"] (defScope s_gains_if_kept) := ⟨rfl, rfl, rfl, by decide +kernel, rfl, by decide +kernel, by decide +kernel⟩
def t_gains_if_kept (K : PySem.W.Frag) (sp_step_gains sp_greatest_sums : Sp) : TS := (tSeq (tAsg (tCall sp_step_gains [] E0 (tCons (tVar 0) (tCons (tVar 1) tNil))) (gName 2))
    (tSeq (tAsg (tOp (rIx K) (tCall sp_greatest_sums [] E0 (tCons (tVar 2) tNil)) (tC (.int 1))) (gName 3))
    (tSeq (tIfS (tTest (tOp kNotN (tVar 3) (tC .non))) tNever tNext)
    (tRet (tVar 2)))))
theorem d_gains_if_kept {P : Program} {w : World} {K : PySem.W.Frag} {mg : Str → Option Value} {base : Heap} (B : Bif mg) {sp_step_gains sp_greatest_sums : Sp} (c_step_gains : Cal P w K mg base 1 "step_gains" ["table", "waits"] sp_step_gains) (c_greatest_sums : Cal P w K mg base 2 "greatest_sums" ["gains"] sp_greatest_sums) {f : Addr} {cdv : Value} {A : Around} {outer : List Env} {s : Shared} {H : Hp} {E : XK} (hr : Room 2 (A.deeper (envOfC "gains_if_kept" (defScope s_gains_if_kept) s.heap.objs.size f cdv))) :
    PSs (cxOf CX0 P w K mg base ["table", "waits", "gains", "ring"] "gains_if_kept" (defScope s_gains_if_kept) f cdv A outer s H E).nox (defBody s_gains_if_kept) (t_gains_if_kept K sp_step_gains sp_greatest_sums) := by
  have nd := sc_gains_if_kept.nd
  exact (pss_cons (ps_set (i := 2) nd rfl (Or.inl rfl) (pe_cal c_step_gains hr (by decide) (by rfl) (pa_cons (pv 0) (pa_cons (pv 1) pa_nil))))
      (pss_cons (ps_set (i := 3) nd rfl (Or.inl rfl) (pe_ix ix_seq (pe_cal c_greatest_sums hr (by decide) (by rfl) (pa_cons (pv 2) pa_nil)) pe_int (fun _ _ => rfl)))
      (pss_cons (ps_if (pt_cmpR k_notN (pv 3) pe_non (nomark _)) (pss_one ps_never) pss_nil)
      (pss_one (ps_ret (pv 2))))))

abbrev s_room_by : Stmt := topS 21
theorem sc_room_by : FnScope ["waits", "door", "reached"] ["waits", "door", "reached"] (defScope s_room_by) := ⟨rfl, rfl, rfl, by decide +kernel, rfl, by decide +kernel, by decide +kernel⟩
def t_room_by (K : PySem.W.Frag) : TS := (tRet (tIf (tTest (tOp kIsN (tVar 2) (tC .non))) (tC .non) (tOp rSub (tOp (rIx K) (tVar 0) (tVar 1)) (tVar 2))))
theorem d_room_by {P : Program} {w : World} {K : PySem.W.Frag} {mg : Str → Option Value} {base : Heap} (B : Bif mg)  {f : Addr} {cdv : Value} {A : Around} {outer : List Env} {s : Shared} {H : Hp} {E : XK} (hr : Room 0 (A.deeper (envOfC "room_by" (defScope s_room_by) s.heap.objs.size f cdv))) :
    PSs (cxOf CX0 P w K mg base ["waits", "door", "reached"] "room_by" (defScope s_room_by) f cdv A outer s H E).nox (defBody s_room_by) (t_room_by K ) := by
  have nd := sc_room_by.nd
  exact (pss_one (ps_ret (pe_ifExp (pt_cmpR k_isN (pv 2) pe_non (nomark _)) pe_non (pe_op k_sub (pe_ix ix_seq (pv 0) (pv 1) (fun _ _ => rfl)) (pv 2)))))

abbrev s_room_of : Stmt := topS 22
theorem sc_room_of : FnScope ["table", "waits", "door", "other", "sums"] ["table", "waits", "door", "other"] (defScope s_room_of) := ⟨rfl, rfl, rfl, by decide +kernel, rfl, by decide +kernel, by decide +kernel⟩
def t_room_of (K : PySem.W.Frag) (sp_need_table_waits sp_need_table_pair sp_sums_to sp_gains_if_kept sp_room_by : Sp) : TS := (tSeq (tDrop (tCall sp_need_table_waits [] E0 (tCons (tCB (cLen K) (tCons (tVar 0) tNil)) (tCons (tVar 1) tNil))))
    (tSeq (tDrop (tCall sp_need_table_pair [] E0 (tCons (tCB (cLen K) (tCons (tVar 0) tNil)) (tCons (tVar 2) (tCons (tVar 3) tNil)))))
    (tSeq (tAsg (tOp (rIx K) (tCall sp_sums_to [] E0 (tCons (tCall sp_gains_if_kept [] E0 (tCons (tVar 0) (tCons (tVar 1) tNil))) (tCons (tVar 2) tNil))) (tC (.int 0))) (gName 4))
    (tRet (tCall sp_room_by [] E0 (tCons (tVar 1) (tCons (tVar 2) (tCons (tOp (rIx K) (tVar 4) (tVar 3)) tNil))))))))
theorem d_room_of {P : Program} {w : World} {K : PySem.W.Frag} {mg : Str → Option Value} {base : Heap} (B : Bif mg) {sp_need_table_waits sp_need_table_pair sp_sums_to sp_gains_if_kept sp_room_by : Sp} (c_need_table_waits : Cal P w K mg base 3 "need_table_waits" ["size", "waits"] sp_need_table_waits) (c_need_table_pair : Cal P w K mg base 5 "need_table_pair" ["size", "door", "other"] sp_need_table_pair) (c_sums_to : Cal P w K mg base 1 "sums_to" ["gains", "goal"] sp_sums_to) (c_gains_if_kept : Cal P w K mg base 3 "gains_if_kept" ["table", "waits"] sp_gains_if_kept) (c_room_by : Cal P w K mg base 1 "room_by" ["waits", "door", "reached"] sp_room_by) {f : Addr} {cdv : Value} {A : Around} {outer : List Env} {s : Shared} {H : Hp} {E : XK} (hr : Room 5 (A.deeper (envOfC "room_of" (defScope s_room_of) s.heap.objs.size f cdv))) :
    PSs (cxOf CX0 P w K mg base ["table", "waits", "door", "other", "sums"] "room_of" (defScope s_room_of) f cdv A outer s H E).nox (defBody s_room_of) (t_room_of K sp_need_table_waits sp_need_table_pair sp_sums_to sp_gains_if_kept sp_room_by) := by
  have nd := sc_room_of.nd
  exact (pss_cons (ps_expr (pe_cal c_need_table_waits hr (by decide) (by rfl) (pa_cons (pe_callB k_len (by rfl) B.len_ (by decide +kernel) (pa_cons (pv 0) pa_nil)) (pa_cons (pv 1) pa_nil))))
      (pss_cons (ps_expr (pe_cal c_need_table_pair hr (by decide) (by rfl) (pa_cons (pe_callB k_len (by rfl) B.len_ (by decide +kernel) (pa_cons (pv 0) pa_nil)) (pa_cons (pv 2) (pa_cons (pv 3) pa_nil)))))
      (pss_cons (ps_set (i := 4) nd rfl (Or.inl rfl) (pe_ix ix_seq (pe_cal c_sums_to hr (by decide) (by rfl) (pa_cons (pe_cal c_gains_if_kept hr (by decide) (by rfl) (pa_cons (pv 0) (pa_cons (pv 1) pa_nil))) (pa_cons (pv 2) pa_nil))) pe_int (fun _ _ => rfl)))
      (pss_one (ps_ret (pe_cal c_room_by hr (by decide) (by rfl) (pa_cons (pv 1) (pa_cons (pv 2) (pa_cons (pe_ix ix_seq (pv 4) (pv 3) (fun _ _ => rfl)) pa_nil)))))))))

section
variable {P : Program} {w : World} {K : PySem.W.Frag} {mg : Str → Option Value} {base : Heap}
/-! ### the judge -/
/-- a table and waits -/
structure TW (K : PySem.W.Frag) (H : Hp) (n : Nat) (a b : Addr) (g : Gr) (t : Nat → Int) : Prop where
  tab : TR K H a n n (oI g)
  wai : SqT K H b (tabI n t)
  one : 1 ≤ n
  le : n ≤ 1000
theorem TW.mono {H H' : Hp} {n : Nat} {a b : Addr} {g : Gr} {t : Nat → Int} (h : TW K H n a b g t) (S : Same H H') : TW K H' n a b g t := ⟨S.tt h.tab, S.t h.wai, h.one, h.le⟩
def NN (n : Nat) (t : Nat → Int) : Prop := ∀ i, i < n → 0 ≤ t i
/-- the ring that greatest_sums gives, or None -/
def RingOr (K : PySem.W.Frag) (n : Nat) (u : Gr) : V → Hp → Prop := fun v H1 => (v = .non ∧ ∃ p, Feas n u p) ∨ ∃ rA p c, v = .ref rA ∧ PT H1 rA (tab p fun i => .int (c i : Nat)) ∧ IsRing n u p c ∧ 0 < rsum u p c
theorem RingOr.dec {n : Nat} {u : Gr} {v : V} {H1 : Hp} (h : RingOr K n u v H1) : decide (v = .non) = true ↔ ∃ p, Feas n u p := by
  rcases h with ⟨e, p⟩ | ⟨rA, p, c, e, _, r, s⟩
  · subst e; exact ⟨fun _ => p, fun _ => rfl⟩
  · subst e
    refine ⟨fun z => absurd (of_decide_eq_true z) (by intro z; cases z), fun ⟨q, f⟩ => ?_⟩
    have := f.ring r; omega
theorem al_ringAt {σ : St} {H : Hp} {n : Nat} {u : Gr} {te : TE} (h : Al te σ H (GS K n u)) : Al (tOp (rIx K) te (tC (.int 1))) σ H (RingOr K n u) := al_opc h fun v H1 S p => by
  obtain ⟨q, e, p⟩ := p
  subst e
  rcases p with ⟨sA, S2, h1, h2, h3⟩ | ⟨rA, p, c, h1, h2, h3, h4⟩
  · exact ⟨.non, vr_xT h1 rfl, .inl ⟨rfl, S2, h3⟩⟩
  · exact ⟨.ref rA, vr_xT h1 rfl, .inr ⟨rA, p, c, rfl, h2, h3, h4⟩⟩
theorem al_sg {σ : St} {H : Hp} {n : Nat} {a b : Addr} {g : Gr} {t : Nat → Int} {ta tb : TE} (h : TW K H n a b g t) (ha : Va ta σ H (.ref a)) (hb : Va tb σ H (.ref b)) :
    Al (tCall (spStepGains K) [] E0 (tCons ta (tCons tb tNil))) σ H (IsLL K n n (oI (gn g t))) := al_call (vs_cons ha (vs_cons hb vs_nil)) fun Q E r => ⟨n, a, b, g, t, rfl, h.tab, h.wai, h.le, r⟩
/-- greatest_sums of gains made on the way -/
theorem al_gsOf {σ : St} {H : Hp} {n : Nat} {u : Gr} {te : TE} (h1 : 1 ≤ n) (h2 : n ≤ 1000) (hu : ∀ x, u x x = none) (h : Al te σ H (IsLL K n n (oI u))) : Al (tCall (spGreatest K) [] E0 (tCons te tNil)) σ H (GS K n u) := fun Q q =>
  h _ fun v H1 S ⟨p, e, l⟩ => ⟨n, p, u, by rw [e]; rfl, l, h1, h2, hu, fun v H2 S2 r => q v H2 (S.trans S2) r⟩
theorem al_gsV {σ : St} {H : Hp} {n : Nat} {u : Gr} {te : TE} {p : Addr} (h1 : 1 ≤ n) (h2 : n ≤ 1000) (hu : ∀ x, u x x = none) (h : Va te σ H (.ref p)) (hl : LL K H p n n (oI u)) : Al (tCall (spGreatest K) [] E0 (tCons te tNil)) σ H (GS K n u) :=
  al_gsOf h1 h2 hu ((al_va h).imp fun v H1 S e => ⟨p, e, S.ll hl⟩)
/-- need_table_waits(len(table), waits) -/
theorem al_ntw {σ : St} {H : Hp} {n : Nat} {a b : Addr} {g : Gr} {t : Nat → Int} {ta tb : TE} (h : TW K H n a b g t) (h0 : NN n t) (ha : Va ta σ H (.ref a)) (hb : Va tb σ H (.ref b)) :
    Al (tCall (spNeedWaits K) [] E0 (tCons (tCB (cLen K) (tCons ta tNil)) (tCons tb tNil))) σ H (fun v _ => v = .non) :=
  al_call (vs_cons (va_cb (vs_cons ha vs_nil) (vc_lenTT h.tab)) (vs_cons hb vs_nil)) fun Q E r => ⟨n, b, t, rfl, h.wai, h.le, h0, r⟩
/-- gains_if_kept, of kept waits -/
def spGainsKept (K : PySem.W.Frag) : Sp := fun vs H Q _ => ∃ (n : Nat) (a b : Addr) (g : Gr) (t : Nat → Int), vs = [.ref a, .ref b] ∧ TW K H n a b g t ∧ Kept n g t ∧ Ret (IsLL K n n (oI (gn g t))) H Q
theorem cal_gains_if_kept (T : Txt K mg) : Cal P w K mg base 3 "gains_if_kept" ["table", "waits"] (spGainsKept K) := by
  refine T.gains_if_kept.cal sc_gains_if_kept (fun vs H Q E h => ?_) (fun f cdv A outer s H vs Q E hr h => ⟨_, d_gains_if_kept T.B (cal_step_gains T) (cal_greatest_sums T) hr, ?_⟩)
  · obtain ⟨n, a, b, g, t, rfl, _⟩ := h; rfl
  obtain ⟨n, a, b, g, t, rfl, hT, hk, q⟩ := h
  unfold t_gains_if_kept
  refine q_asgA (al_sg hT (va_var rfl) (va_var rfl)) fun v H1 S1 ⟨G, ev, hG⟩ => ?_
  subst ev
  refine q_asgA (al_ringAt (al_gsV hT.one hT.le (gn_self g t) (va_var rfl) hG)) fun v H2 S2 hR => ?_
  have ev : v = .non := of_decide_eq_true (hR.dec.mpr hk)
  subst ev
  refine q_ifFn (vt_test (va_op (va_var rfl) va_c vr_notNn)) ?_
  exact st_ret (va_var rfl) (q _ _ (S1.trans S2) ⟨G, rfl, S2.ll hG⟩)
/-- room_by -/
def spRoomBy (K : PySem.W.Frag) : Sp := fun vs H Q _ => ∃ (n : Nat) (b : Addr) (t : Nat → Int) (x : Nat) (o : Option Int), vs = [.ref b, .int (x : Int), oV o] ∧ SqT K H b (tabI n t) ∧ x < n ∧ Q (oV (o.map fun s => t x - s)) H
theorem cal_room_by (T : Txt K mg) : Cal P w K mg base 1 "room_by" ["waits", "door", "reached"] (spRoomBy K) := by
  refine T.room_by.cal sc_room_by (fun vs H Q E h => ?_) (fun f cdv A outer s H vs Q E hr h => ⟨_, d_room_by T.B hr, ?_⟩)
  · obtain ⟨n, b, t, x, o, rfl, _⟩ := h; rfl
  obtain ⟨n, b, t, x, o, rfl, ht, hx, q⟩ := h
  unfold t_room_by
  refine st_ret ?_ q
  cases o with
  | none => exact va_ifT (vt_test (va_op (va_var (v := .non) rfl) va_c vr_isNn)) va_c
  | some c => exact va_ifF (vt_test (va_op (va_var (v := .int c) rfl) va_c vr_isNi)) (va_op (va_op (va_var rfl) (va_var rfl) (vr_xTt ht hx)) (va_var (v := .int c) rfl) vr_sub)
theorem va_roomBy {σ : St} {H : Hp} {n : Nat} {b : Addr} {t : Nat → Int} {x : Nat} {o : Option Int} {ta tb tc : TE} (h : SqT K H b (tabI n t)) (hx : x < n) (ha : Va ta σ H (.ref b)) (hb : Va tb σ H (.int (x : Int))) (hc : Va tc σ H (oV o)) :
    Va (tCall (spRoomBy K) [] E0 (tCons ta (tCons tb (tCons tc tNil)))) σ H (oV (o.map fun s => t x - s)) := va_call (vs_cons ha (vs_cons hb (vs_cons hc vs_nil))) fun Q E q => ⟨n, b, t, x, o, rfl, h, hx, q⟩
/-- sums_to(gains, door) of kept gains -/
theorem al_st {σ : St} {H : Hp} {n : Nat} {u : Gr} {ta tb : TE} {p : Addr} {x : Nat} (h2 : n ≤ 1000) (hu : ∀ x, u x x = none) (hx : x < n) (hl : LL K H p n n (oI u)) (hp : ∃ q : Nat → Int, ∀ i j g, i < n → j < n → i ≠ x → u i j = some g → q i + g ≤ q j) (ha : Va ta σ H (.ref p)) (hb : Va tb σ H (.int (x : Int))) :
    Al (tCall (spSumsTo K) [] E0 (tCons ta (tCons tb tNil))) σ H (BS2 K n u x) := al_call (vs_cons ha (vs_cons hb vs_nil)) fun Q E r => by
  obtain ⟨q, hq⟩ := hp
  exact ⟨n, p, u, x, q, rfl, hl, hx, h2, hu, hq, r⟩
/-- sums_to of gains made on the way -/
theorem al_stA {σ : St} {H : Hp} {n : Nat} {u : Gr} {te tb : TE} {x : Nat} (h2 : n ≤ 1000) (hu : ∀ x, u x x = none) (hx : x < n) (h : Al te σ H (IsLL K n n (oI u))) (hp : ∃ q : Nat → Int, ∀ i j g, i < n → j < n → i ≠ x → u i j = some g → q i + g ≤ q j) (hb : ∀ H1, Same H H1 → Va tb σ H1 (.int (x : Int))) :
    Al (tCall (spSumsTo K) [] E0 (tCons te (tCons tb tNil))) σ H (BS2 K n u x) := fun Q q => h _ fun v H1 S ⟨p, e, l⟩ => hb H1 S _ (by
  obtain ⟨r, hr⟩ := hp
  subst e
  exact ⟨n, p, u, x, r, rfl, l, hx, h2, hu, hr, fun v H2 S2 r2 => q v H2 (S.trans S2) r2⟩)
theorem kept_pot {n : Nat} {g : Gr} {t : Nat → Int} (h : Kept n g t) (x : Nat) : ∃ q : Nat → Int, ∀ i j v, i < n → j < n → i ≠ x → gn g t i j = some v → q i + v ≤ q j := by
  obtain ⟨q, f⟩ := h
  exact ⟨q, fun i j v hi hj _ e => f i j hi hj v e⟩
/-- sums_to(..)[0] -/
theorem al_st0 {σ : St} {H : Hp} {n : Nat} {u : Gr} {x : Nat} {te : TE} (h : Al te σ H (BS2 K n u x)) : Al (tOp (rIx K) te (tC (.int 0))) σ H (fun v H1 => ∃ sA, v = .ref sA ∧ SqL K H1 sA (tabO n (bestS n u x))) := al_opc h fun v H1 S p => by
  obtain ⟨q, sA, fA, S2, F, τ, e, h1, h2, h3, h4⟩ := p
  subst e
  refine ⟨.ref sA, vr_xT h1 rfl, sA, rfl, ?_⟩
  rw [show tabO n (bestS n u x) = tabO n S2 from tab_congr fun i hi => by rw [bestS_eq h4 hi]]
  exact h2
def spRoomOf (K : PySem.W.Frag) : Sp := fun vs H Q _ => ∃ (n : Nat) (a b : Addr) (g : Gr) (t : Nat → Int) (x y : Nat), vs = [.ref a, .ref b, .int (x : Int), .int (y : Int)] ∧ TW K H n a b g t ∧ NN n t ∧ Kept n g t ∧ x < n ∧ y < n ∧ y ≠ x ∧ Ret (fun v _ => v = oV (roomF n g t x y)) H Q
theorem cal_room_of (T : Txt K mg) : Cal P w K mg base 6 "room_of" ["table", "waits", "door", "other"] (spRoomOf K) := by
  refine T.room_of.cal sc_room_of (fun vs H Q E h => ?_) (fun f cdv A outer s H vs Q E hr h => ⟨_, d_room_of T.B (cal_need_table_waits T) (cal_need_table_pair T) (cal_sums_to T) (cal_gains_if_kept T) (cal_room_by T) hr, ?_⟩)
  · obtain ⟨n, a, b, g, t, x, y, rfl, _⟩ := h; rfl
  obtain ⟨n, a, b, g, t, x, y, rfl, hT, h0, hk, hx, hy, hxy, q⟩ := h
  unfold t_room_of
  refine q_dropA (al_ntw hT h0 (va_var rfl) (va_var rfl)) fun v H1 S1 _ => ?_
  have hT1 := hT.mono S1
  refine q_drop (v := .non) (va_call (z := .non) (vs_cons (va_cb (vs_cons (va_var rfl) vs_nil) (vc_lenTT hT1.tab)) (by walk_at "vs")) fun Q E q => ⟨(n : Int), (x : Int), (y : Int), rfl, by omega, by omega, by omega, by omega, by omega, q⟩) ?_
  refine q_asgA (al_st0 (al_stA hT.le (gn_self g t) hx (al_call (P := IsLL K n n (oI (gn g t))) (by walk_at "vs") fun Q E r => ⟨n, a, b, g, t, rfl, hT1, hk, r⟩) (kept_pot hk x) fun H2 _ => va_var rfl)) fun v H3 S3 ⟨sA, ev, hs⟩ => ?_
  subst ev
  refine st_ret (va_roomBy ((S1.trans S3).t hT.wai) hx (va_var rfl) (va_var rfl) (va_op (va_var rfl) (va_var rfl) (vr_xLl hs hy))) (q _ _ (S1.trans S3) ?_)
  unfold roomF
  rw [if_neg hxy]
end
end K45
set_option Elab.async false
set_option linter.all false
set_option maxRecDepth 100000
set_option maxHeartbeats 200000
namespace K45
open PySem PySem.Spec PyProof.Rows L2
abbrev s_room_row : Stmt := topS 23
theorem sc_room_row : FnScope ["gains", "waits", "door", "sums", "other"] ["gains", "waits", "door"] (defScope s_room_row) := ⟨rfl, rfl, rfl, by decide +kernel, rfl, by decide +kernel, by decide +kernel⟩
def t_room_row (K : PySem.W.Frag) (sp_sums_to sp_room_by : Sp) : TS := (tSeq (tAsg (tOp (rIx K) (tCall sp_sums_to [] E0 (tCons (tVar 0) (tCons (tVar 2) tNil))) (tC (.int 0))) (gName 3))
    (tRet (tCB (cTup K) (tCons (tLc (iRng1 (tCons (tCB (cLen K) (tCons (tVar 1) tNil)) tNil)) (gName 4) tYes (tIf (tTest (tOp rEq (tVar 4) (tVar 2))) (tC (.int 0)) (tCall sp_room_by [] E0 (tCons (tVar 1) (tCons (tVar 2) (tCons (tOp (rIx K) (tVar 3) (tVar 4)) tNil))))) [4]) tNil))))
theorem d_room_row {P : Program} {w : World} {K : PySem.W.Frag} {mg : Str → Option Value} {base : Heap} (B : Bif mg) {sp_sums_to sp_room_by : Sp} (c_sums_to : Cal P w K mg base 1 "sums_to" ["gains", "goal"] sp_sums_to) (c_room_by : Cal P w K mg base 1 "room_by" ["waits", "door", "reached"] sp_room_by) {f : Addr} {cdv : Value} {A : Around} {outer : List Env} {s : Shared} {H : Hp} {E : XK} (hr : Room 1 (A.deeper (envOfC "room_row" (defScope s_room_row) s.heap.objs.size f cdv))) :
    PSs (cxOf CX0 P w K mg base ["gains", "waits", "door", "sums", "other"] "room_row" (defScope s_room_row) f cdv A outer s H E).nox (defBody s_room_row) (t_room_row K sp_sums_to sp_room_by) := by
  have nd := sc_room_row.nd
  exact (pss_cons (ps_set (i := 3) nd rfl (Or.inr rfl) (pe_ix ix_seq (pe_cal c_sums_to hr (by decide) (by rfl) (pa_cons (pv 0) (pa_cons (pv 2) pa_nil))) pe_int (fun _ _ => rfl)))
      (pss_one (ps_ret (pe_callTy k_tuple (by rfl) B.tuple_ (by decide +kernel) (pa_cons (pe_lc (own := [("other", 4)]) rfl nd (pi_range1 (by rfl) B.range_ (pa_cons (pe_callB k_len (by rfl) B.len_ (by decide +kernel) (pa_cons (pv 1) pa_nil)) pa_nil)) (blkOk_by (own := [("other", 4)]) (by kernel_rfl)) (fun _ _ _ _ _ => (pg_name (i := 4) nd rfl (Or.inl rfl))) (fun _ _ _ _ _ => pts_nil) (fun _ _ _ _ _ => (pe_ifExp (pt_cmpR op_eq (pv 4) (pv 2) (nomark _)) pe_int (pe_cal c_room_by hr (by decide) (by rfl) (pa_cons (pv 1) (pa_cons (pv 2) (pa_cons (pe_ix ix_seq (pv 3) (pv 4) (fun _ _ => rfl)) pa_nil))))))) pa_nil)))))

abbrev s_room_table : Stmt := topS 24
theorem sc_room_table : FnScope ["table", "waits", "gains", "door"] ["table", "waits"] (defScope s_room_table) := ⟨rfl, rfl, rfl, by decide +kernel, rfl, by decide +kernel, by decide +kernel⟩
def t_room_table (K : PySem.W.Frag) (sp_need_table_waits sp_gains_if_kept sp_room_row : Sp) : TS := (tSeq (tDrop (tCall sp_need_table_waits [] E0 (tCons (tCB (cLen K) (tCons (tVar 0) tNil)) (tCons (tVar 1) tNil))))
    (tSeq (tAsg (tCall sp_gains_if_kept [] E0 (tCons (tVar 0) (tCons (tVar 1) tNil))) (gName 2))
    (tRet (tCB (cTup K) (tCons (tLc (iRng1 (tCons (tCB (cLen K) (tCons (tVar 0) tNil)) tNil)) (gName 3) tYes (tCall sp_room_row [] E0 (tCons (tVar 2) (tCons (tVar 1) (tCons (tVar 3) tNil)))) [3]) tNil)))))
theorem d_room_table {P : Program} {w : World} {K : PySem.W.Frag} {mg : Str → Option Value} {base : Heap} (B : Bif mg) {sp_need_table_waits sp_gains_if_kept sp_room_row : Sp} (c_need_table_waits : Cal P w K mg base 3 "need_table_waits" ["size", "waits"] sp_need_table_waits) (c_gains_if_kept : Cal P w K mg base 3 "gains_if_kept" ["table", "waits"] sp_gains_if_kept) (c_room_row : Cal P w K mg base 2 "room_row" ["gains", "waits", "door"] sp_room_row) {f : Addr} {cdv : Value} {A : Around} {outer : List Env} {s : Shared} {H : Hp} {E : XK} (hr : Room 3 (A.deeper (envOfC "room_table" (defScope s_room_table) s.heap.objs.size f cdv))) :
    PSs (cxOf CX0 P w K mg base ["table", "waits", "gains", "door"] "room_table" (defScope s_room_table) f cdv A outer s H E).nox (defBody s_room_table) (t_room_table K sp_need_table_waits sp_gains_if_kept sp_room_row) := by
  have nd := sc_room_table.nd
  exact (pss_cons (ps_expr (pe_cal c_need_table_waits hr (by decide) (by rfl) (pa_cons (pe_callB k_len (by rfl) B.len_ (by decide +kernel) (pa_cons (pv 0) pa_nil)) (pa_cons (pv 1) pa_nil))))
      (pss_cons (ps_set (i := 2) nd rfl (Or.inr rfl) (pe_cal c_gains_if_kept hr (by decide) (by rfl) (pa_cons (pv 0) (pa_cons (pv 1) pa_nil))))
      (pss_one (ps_ret (pe_callTy k_tuple (by rfl) B.tuple_ (by decide +kernel) (pa_cons (pe_lc (own := [("door", 3)]) rfl nd (pi_range1 (by rfl) B.range_ (pa_cons (pe_callB k_len (by rfl) B.len_ (by decide +kernel) (pa_cons (pv 0) pa_nil)) pa_nil)) (blkOk_by (own := [("door", 3)]) (by kernel_rfl)) (fun _ _ _ _ _ => (pg_name (i := 3) nd rfl (Or.inl rfl))) (fun _ _ _ _ _ => pts_nil) (fun _ _ _ _ _ => (pe_cal c_room_row hr (by decide) (by rfl) (pa_cons (pv 2) (pa_cons (pv 1) (pa_cons (pv 3) pa_nil)))))) pa_nil))))))

abbrev s_ring_from : Stmt := topS 26
theorem sc_ring_from : FnScope ["door", "first", "following", "ring"] ["door", "first", "following"] (defScope s_ring_from) := ⟨rfl, rfl, rfl, by decide +kernel, rfl, by decide +kernel, by decide +kernel⟩
def t_ring_from (K : PySem.W.Frag) : TS := (tSeq (tAsg (tLst (tCons (tVar 0) tNil)) (gName 3))
    (tSeq (tWhile (tTest (tOp rNe (tVar 1) (tVar 0))) (tSeq (tDrop (tBM K "list" rAppend (tVar 3) (tCons (tVar 1) tNil)))
    (tAsg (tOp (rIx K) (tVar 2) (tVar 1)) (gName 1))))
    (tRet (tCB (cTupZ K) (tCons (tVar 3) tNil)))))
theorem d_ring_from {P : Program} {w : World} {K : PySem.W.Frag} {mg : Str → Option Value} {base : Heap} (B : Bif mg)  {f : Addr} {cdv : Value} {A : Around} {outer : List Env} {s : Shared} {H : Hp} {E : XK} (hr : Room 0 (A.deeper (envOfC "ring_from" (defScope s_ring_from) s.heap.objs.size f cdv))) :
    PSs (cxOf CX0 P w K mg base ["door", "first", "following", "ring"] "ring_from" (defScope s_ring_from) f cdv A outer s H E).nox (defBody s_ring_from) (t_ring_from K ) := by
  have nd := sc_ring_from.nd
  exact (pss_cons (ps_set (i := 3) nd rfl (Or.inl rfl) (pe_lst (pa_cons (pv 0) pa_nil)))
      (pss_cons (ps_while PassesOwn.never (pt_cmpR op_ne (pv 1) (pv 0) (nomark _)) (pss_cons (ps_expr (pe_bm PySem.F.plainAttrs_list PySem.F.slot_list_append PySem.F.type_list_append mt_append (pv 3) (pa_cons (pv 1) pa_nil)))
      (pss_one (ps_set (i := 1) nd rfl (Or.inl rfl) (pe_ix ix_seq (pv 2) (pv 1) (fun _ _ => rfl))))))
      (pss_one (ps_ret (pe_callTy k_tupleZ (by rfl) B.tuple_ (by decide +kernel) (pa_cons (pv 3) pa_nil))))))

abbrev s_tight_ring : Stmt := topS 25
theorem sc_tight_ring : FnScope ["table", "waits", "door", "gains", "sums", "following", "first", "gain"] ["table", "waits", "door"] (defScope s_tight_ring) := ⟨rfl, rfl, rfl, by decide +kernel, rfl, by decide +kernel, by decide +kernel⟩
def t_tight_ring (K : PySem.W.Frag) (sp_need_table_waits sp_need_table_door sp_gains_if_kept sp_sums_to sp_ring_from : Sp) : TS := (tSeq (tDrop (tCall sp_need_table_waits [] E0 (tCons (tCB (cLen K) (tCons (tVar 0) tNil)) (tCons (tVar 1) tNil))))
    (tSeq (tDrop (tCall sp_need_table_door [] E0 (tCons (tCB (cLen K) (tCons (tVar 0) tNil)) (tCons (tVar 2) tNil))))
    (tSeq (tAsg (tCall sp_gains_if_kept [] E0 (tCons (tVar 0) (tCons (tVar 1) tNil))) (gName 3))
    (tSeq (tAsg (tCall sp_sums_to [] E0 (tCons (tVar 3) (tCons (tVar 2) tNil))) (gTup K 2 (gCons (gName 4) (gCons (gName 5) gNil))))
    (tSeq (tFor (iEnum K (tCons (tOp (rIx K) (tVar 3) (tVar 2)) tNil)) (gTup K 2 (gCons (gName 6) (gCons (gName 7) gNil))) (tIfS (tAnd (tTest (tOp kNotN (tVar 7) (tC .non))) (tAnd (tTest (tOp kNotN (tOp (rIx K) (tVar 4) (tVar 6)) (tC .non))) (tTest (tOp rEq (tOp rAdd (tVar 7) (tOp (rIx K) (tVar 4) (tVar 6))) (tC (.int 0)))))) (tRet (tCall sp_ring_from [] E0 (tCons (tVar 2) (tCons (tVar 6) (tCons (tVar 5) tNil))))) tNext))
    (tRet (tC .non)))))))
theorem d_tight_ring {P : Program} {w : World} {K : PySem.W.Frag} {mg : Str → Option Value} {base : Heap} (B : Bif mg) {sp_need_table_waits sp_need_table_door sp_gains_if_kept sp_sums_to sp_ring_from : Sp} (c_need_table_waits : Cal P w K mg base 3 "need_table_waits" ["size", "waits"] sp_need_table_waits) (c_need_table_door : Cal P w K mg base 4 "need_table_door" ["size", "door"] sp_need_table_door) (c_gains_if_kept : Cal P w K mg base 3 "gains_if_kept" ["table", "waits"] sp_gains_if_kept) (c_sums_to : Cal P w K mg base 1 "sums_to" ["gains", "goal"] sp_sums_to) (c_ring_from : Cal P w K mg base 1 "ring_from" ["door", "first", "following"] sp_ring_from) {f : Addr} {cdv : Value} {A : Around} {outer : List Env} {s : Shared} {H : Hp} {E : XK} (hr : Room 4 (A.deeper (envOfC "tight_ring" (defScope s_tight_ring) s.heap.objs.size f cdv))) :
    PSs (cxOf CX0 P w K mg base ["table", "waits", "door", "gains", "sums", "following", "first", "gain"] "tight_ring" (defScope s_tight_ring) f cdv A outer s H E).nox (defBody s_tight_ring) (t_tight_ring K sp_need_table_waits sp_need_table_door sp_gains_if_kept sp_sums_to sp_ring_from) := by
  have nd := sc_tight_ring.nd
  exact (pss_cons (ps_expr (pe_cal c_need_table_waits hr (by decide) (by rfl) (pa_cons (pe_callB k_len (by rfl) B.len_ (by decide +kernel) (pa_cons (pv 0) pa_nil)) (pa_cons (pv 1) pa_nil))))
      (pss_cons (ps_expr (pe_cal c_need_table_door hr (by decide) (by rfl) (pa_cons (pe_callB k_len (by rfl) B.len_ (by decide +kernel) (pa_cons (pv 0) pa_nil)) (pa_cons (pv 2) pa_nil))))
      (pss_cons (ps_set (i := 3) nd rfl (Or.inl rfl) (pe_cal c_gains_if_kept hr (by decide) (by rfl) (pa_cons (pv 0) (pa_cons (pv 1) pa_nil))))
      (pss_cons (ps_asg (pe_cal c_sums_to hr (by decide) (by rfl) (pa_cons (pv 3) (pa_cons (pv 2) pa_nil))) (pg_tup rfl (pgs_cons (pg_name (i := 4) nd rfl (Or.inl rfl)) (pgs_cons (pg_name (i := 5) nd rfl (Or.inl rfl)) pgs_nil))))
      (pss_cons (ps_for PassesOwn.never rfl (pi_enum (by rfl) B.enumerate_ (pa_cons (pe_ix ix_seq (pv 3) (pv 2) (fun _ _ => rfl)) pa_nil)) (pg_tup rfl (pgs_cons (pg_name (i := 6) nd rfl (Or.inl rfl)) (pgs_cons (pg_name (i := 7) nd rfl (Or.inl rfl)) pgs_nil))) (pss_one (ps_if (PW.pt (pw_and (pt_cmpR k_notN (pv 7) pe_non (nomark _)) (pw_and (pt_cmpR k_notN (pe_ix ix_seq (pv 4) (pv 6) (fun _ _ => rfl)) pe_non (nomark _)) (pw_and1 (pt_cmpR op_eq (pe_op k_add (pv 7) (pe_ix ix_seq (pv 4) (pv 6) (fun _ _ => rfl))) pe_int (nomark _)))))) (pss_one (ps_ret (pe_cal c_ring_from hr (by decide) (by rfl) (pa_cons (pv 2) (pa_cons (pv 6) (pa_cons (pv 5) pa_nil)))))) pss_nil)))
      (pss_one (ps_ret pe_non)))))))

section
variable {P : Program} {w : World} {K : PySem.W.Frag} {mg : Str → Option Value} {base : Heap}
/-! ### tables of rooms -/
abbrev IsTR (K : PySem.W.Frag) (n m : Nat) (F : Nat → Nat → V) : V → Hp → Prop := fun v H' => ∃ p, v = .ref p ∧ TR K H' p n m F
/-- tuple(a list of new tuples) -/
theorem al_tupNews {σ : St} {H : Hp} {n m : Nat} {F : Nat → Nat → V} {te : TE} (h : Al te σ H (IsNews H n (fun i => .tup (tab m (F i))))) : Al (tCB (cTup K) (tCons te tNil)) σ H (IsTR K n m F) :=
  al_cb1 h fun v H1 S ⟨p, ad, e, hp, h1, h2, _, _, _⟩ Q q => ⟨p, _, by rw [e], .inl ⟨SqL.of h1, fun l hl => q _ _ (same_new hl) ⟨l, rfl, ad, SqT.of upd_same, fun i hi => (same_new hl).t (SqT.of (h2 i hi))⟩⟩⟩
def spRoomRow (K : PySem.W.Frag) : Sp := fun vs H Q _ => ∃ (n : Nat) (G b : Addr) (g : Gr) (t : Nat → Int) (x : Nat), vs = [.ref G, .ref b, .int (x : Int)] ∧ LL K H G n n (oI (gn g t)) ∧ SqT K H b (tabI n t) ∧ n ≤ 1000 ∧ Kept n g t ∧ x < n ∧ Ret (IsNewT H (tab n fun y => oV (roomF n g t x y))) H Q
theorem cal_room_row (T : Txt K mg) : Cal P w K mg base 2 "room_row" ["gains", "waits", "door"] (spRoomRow K) := by
  refine T.room_row.cal sc_room_row (fun vs H Q E h => ?_) (fun f cdv A outer s H vs Q E hr h => ⟨_, d_room_row T.B (cal_sums_to T) (cal_room_by T) hr, ?_⟩)
  · obtain ⟨n, G, b, g, t, x, rfl, _⟩ := h; rfl
  obtain ⟨n, G, b, g, t, x, rfl, hG, ht, hn, hk, hx, q⟩ := h
  unfold t_room_row
  refine q_asgA (al_st0 (al_st hn (gn_self g t) hx hG (kept_pot hk x) (va_var rfl) (va_var rfl))) fun v H1 S1 ⟨sA, ev, hs⟩ => ?_
  subst ev
  refine st_retA (al_tupN (al_lcV (fun y => oV (roomF n g t x y)) (src_R (n := n) (vs_cons (va_cb (by walk_at "vs") (vc_lenTt (S1.t ht))) vs_nil) (by omega)) (fun _ => rfl) (by omega) fun y H2 hy S2 => al_va ?_)) fun v H2 S2 p => q v H2 (S1.trans S2) (by obtain ⟨p, e, hp, ho⟩ := p; exact ⟨p, e, S1.none hp, ho⟩)
  by_cases e : y = x
  · refine va_is (va_ifT (vt_is (vt_test (va_op (va_var rfl) (va_var rfl) vr_eqI)) (by rw [e]; exact decide_eq_true rfl)) va_c) ?_
    unfold roomF; rw [if_pos e]; rfl
  · refine va_is (va_ifF (vt_is (vt_test (va_op (va_var rfl) (va_var rfl) vr_eqI)) (decide_eq_false (by omega))) (va_roomBy ((S1.trans S2).t ht) hx (va_var rfl) (va_var rfl) (va_op (va_var rfl) (va_var rfl) (vr_xLl (S2.l hs) hy)))) ?_
    unfold roomF; rw [if_neg e]
def spRoomTable (K : PySem.W.Frag) : Sp := fun vs H Q _ => ∃ (n : Nat) (a b : Addr) (g : Gr) (t : Nat → Int), vs = [.ref a, .ref b] ∧ TW K H n a b g t ∧ NN n t ∧ Kept n g t ∧ Ret (IsTR K n n (oI (roomF n g t))) H Q
theorem cal_room_table (T : Txt K mg) : Cal P w K mg base 4 "room_table" ["table", "waits"] (spRoomTable K) := by
  refine T.room_table.cal sc_room_table (fun vs H Q E h => ?_) (fun f cdv A outer s H vs Q E hr h => ⟨_, d_room_table T.B (cal_need_table_waits T) (cal_gains_if_kept T) (cal_room_row T) hr, ?_⟩)
  · obtain ⟨n, a, b, g, t, rfl, _⟩ := h; rfl
  obtain ⟨n, a, b, g, t, rfl, hT, h0, hk, q⟩ := h
  unfold t_room_table
  refine q_dropA (al_ntw hT h0 (va_var rfl) (va_var rfl)) fun v H1 S1 _ => ?_
  have hT1 := hT.mono S1
  refine q_asgA (al_call (P := IsLL K n n (oI (gn g t))) (by walk_at "vs") fun Q E r => ⟨n, a, b, g, t, rfl, hT1, hk, r⟩) fun v H2 S2 ⟨G, ev, hG⟩ => ?_
  subst ev
  have hT2 := hT1.mono S2
  refine st_retA (al_tupNews (m := n) (F := oI (roomF n g t)) (al_lcN (fun x => .tup (tab n fun y => oV (roomF n g t x y))) (src_R (n := n) (vs_cons (va_cb (by walk_at "vs") (vc_lenTT hT2.tab)) vs_nil) (by have := hT.le; omega)) (fun _ => rfl) (by have := hT.le; omega) fun x H3 hx S3 => ?_)) fun v H3 S3 p => q v H3 ((S1.trans S2).trans S3) p
  exact al_call (by walk_at "vs") fun Q E r => ⟨n, G, b, g, t, x, rfl, S3.ll hG, S3.t hT2.wai, hT.le, hk, hx, r⟩
/-! ### rings without slack -/
def spRingFrom (K : PySem.W.Frag) : Sp := fun vs H Q _ => ∃ (n : Nat) (fA : Addr) (F : Nat → Option Nat) (x y k : Nat) (w : Gr) (s : Int), vs = [.int (x : Int), .int (y : Int), .ref fA] ∧ SqL K H fA (tabN n F) ∧ n ≤ 1000 ∧ Chain n w x F y k s ∧ Ret (IsTupInt K (k + 1) (cring x F y)) H Q
theorem chain_le {n : Nat} {w : Gr} {goal y k : Nat} {F : Nat → Option Nat} {s : Int} (h : Chain n w goal F y k s) : k < n := by
  by_cases c : k < n
  · exact c
  · obtain ⟨i, j, h1, h2, e⟩ := php n (fun j => iter (bk F) j y) fun j hj => h.lt j (by omega)
    have := h.inj i j (by omega) (by omega) e
    omega
theorem cal_ring_from (T : Txt K mg) : Cal P w K mg base 1 "ring_from" ["door", "first", "following"] (spRingFrom K) := by
  refine T.ring_from.cal sc_ring_from (fun vs H Q E h => ?_) (fun f cdv A outer s H vs Q E hr h => ⟨_, d_ring_from T.B hr, ?_⟩)
  · obtain ⟨n, fA, F, x, y, k, w, s, rfl, _⟩ := h; rfl
  obtain ⟨n, fA, F, x, y, k, w, s, rfl, hF, hn, hc, q⟩ := h
  have hkn := chain_le hc
  unfold t_ring_from
  refine q_asgA (al_lst (vs := [.int (x : Int)]) (by walk_at "vs")) fun v H1 S1 ⟨r, ev, nr, hr'⟩ => ?_
  subst ev
  refine q_while (fun m σ' H' => ∃ j, j ≤ k ∧ m = k - j ∧ σ' = [some (.int (x : Int)), some (.int (iter (bk F) j y : Nat)), some (.ref fA), some (.ref r)] ∧ Same H H' ∧ H' r = some (.lst (tab (j + 1) fun i => .int (cring x F y i : Nat)))) k ⟨0, Nat.zero_le _, rfl, rfl, S1, hr'⟩ fun m σ' H' ⟨j, hj, em, es, S, e⟩ => ?_
  subst em es
  refine ⟨!decide ((iter (bk F) j y : Nat) = (x : Int)), vt_test (by walk_at "va"), fun hb => ?_, fun hb => ?_⟩
  · have hjk : j < k := by
      by_cases c : j = k
      · subst c; rw [hc.hit] at hb; simp at hb
      · omega
    refine ⟨fun σ2 H2 => σ2 = [some (.int (x : Int)), some (.int (iter (bk F) (j + 1) y : Nat)), some (.ref fA), some (.ref r)] ∧ Same H H2 ∧ H2 r = some (.lst (tab (j + 1 + 1) fun i => .int (cring x F y i : Nat))), fun σ2 H2 ⟨e1, e2, e3⟩ => ⟨k - (j + 1), by omega, j + 1, hjk, rfl, e1, e2, e3⟩, ?_⟩
    refine q_app (va_var rfl) (va_var rfl) e (by rw [tab_len]; omega) ?_
    have S2 : Same H (upd H' r (.lst (tab (j + 1) (fun i => .int (cring x F y i : Nat)) ++ [.int (iter (bk F) j y : Nat)]))) := same_mut S nr
    exact st_asg (va_is (va_op (va_var rfl) (va_var rfl) (vr_xLl (S2.l hF) (hc.lt j (by omega)))) (oN_some (hc.nx j hjk))) ⟨rfl, S2, by rw [upd_same, tab_succ (j + 1)]; rfl⟩
  · have hjk : j = k := by
      by_cases c : j < k
      · have := hc.ne j c
        have : (iter (bk F) j y : Int) = (x : Int) := by simpa using hb
        omega
      · omega
    subst hjk
    exact st_retA (al_tupZ (va_var rfl) (SqL.of e)) fun v H2 S2 ⟨pp, ev, np, hp⟩ => q v H2 (S.trans S2) ⟨pp, ev, hp⟩
/-- a ring through x without slack, or none is there -/
def Tight (K : PySem.W.Frag) (n : Nat) (u : Gr) (x : Nat) : V → Hp → Prop := fun v H1 => (v = .non ∧ ∀ y e s, y < n → u x y = some e → bestS n u x y = some s → e + s ≠ 0) ∨
  ∃ rA p c, v = .ref rA ∧ PT H1 rA (tab p fun i => .int (c i : Nat)) ∧ IsRing n u p c ∧ rsum u p c = 0 ∧ c 0 = x
def spTightRing (K : PySem.W.Frag) : Sp := fun vs H Q _ => ∃ (n : Nat) (a b : Addr) (g : Gr) (t : Nat → Int) (x : Nat), vs = [.ref a, .ref b, .int (x : Int)] ∧ TW K H n a b g t ∧ NN n t ∧ Kept n g t ∧ x < n ∧ Ret (Tight K n (gn g t) x) H Q
theorem cal_tight_ring (T : Txt K mg) : Cal P w K mg base 5 "tight_ring" ["table", "waits", "door"] (spTightRing K) := by
  refine T.tight_ring.cal sc_tight_ring (fun vs H Q E h => ?_) (fun f cdv A outer s H vs Q E hr h => ⟨_, d_tight_ring T.B (cal_need_table_waits T) (cal_need_table_door T) (cal_gains_if_kept T) (cal_sums_to T) (cal_ring_from T) hr, ?_⟩)
  · obtain ⟨n, a, b, g, t, x, rfl, _⟩ := h; rfl
  obtain ⟨n, a, b, g, t, x, rfl, hT, h0, hk, hx, q⟩ := h
  unfold t_tight_ring
  refine q_dropA (al_ntw hT h0 (va_var rfl) (va_var rfl)) fun v H1 S1 _ => ?_
  have hT1 := hT.mono S1
  refine q_drop (v := .non) (va_call (z := .non) (vs_cons (va_cb (vs_cons (va_var rfl) vs_nil) (vc_lenTT hT1.tab)) (by walk_at "vs")) fun Q E q => ⟨(n : Int), (x : Int), rfl, by omega, by omega, q⟩) ?_
  refine q_asgA (al_call (P := IsLL K n n (oI (gn g t))) (by walk_at "vs") fun Q E r => ⟨n, a, b, g, t, rfl, hT1, hk, r⟩) fun v H2 S2 ⟨G, ev, hG⟩ => ?_
  subst ev
  refine q_asg2 (al_st hT.le (gn_self g t) hx hG (kept_pot hk x) (va_var rfl) (va_var rfl)) fun v H3 S3 ⟨qq, sA, fA, S, F, τ, ev, hq, hs, hf, hB⟩ => ⟨qq, .ref sA, .ref fA, ev, hq, ?_⟩
  obtain ⟨ad, hG1, hG2⟩ := S3.ll hG
  have S03 := (S1.trans S2).trans S3
  refine q_forE (a := ad x) (n := n) (f := fun y => oV (gn g t x y)) (va_op (va_var rfl) (va_var rfl) (vr_xLl (f := fun i => .ref (ad i)) hG1 hx)) (fun k σ' H' => ∃ v6 v7, σ' = [some (.ref a), some (.ref b), some (.int (x : Int)), some (.ref G), some (.ref sA), some (.ref fA), v6, v7] ∧ Same H3 H' ∧ ∀ y e s, y < k → gn g t x y = some e → S y = some s → e + s ≠ 0)
    ⟨none, none, rfl, Same.refl _, fun y e s hy => absurd hy (Nat.not_lt_zero _)⟩ (fun k σ' H' ⟨v6, v7, _, S, _⟩ => S.l (hG2 x hx)) (fun k σ' H' H4 hk4 ⟨v6, v7, es, S4, hno⟩ S5 => ?_) (fun σ' H' ⟨v6, v7, es, S4, hno⟩ => ?_)
  · subst es
    have S35 := S4.trans S5
    have cont : (∀ e s, gn g t x k = some e → S k = some s → e + s ≠ 0) → ∃ v6 v7, [some (V.ref a), some (.ref b), some (.int (x : Int)), some (.ref G), some (.ref sA), some (.ref fA), some (.int (k : Int)), some (oV (gn g t x k))] = [some (.ref a), some (.ref b), some (.int (x : Int)), some (.ref G), some (.ref sA), some (.ref fA), v6, v7] ∧ Same H3 H4 ∧ ∀ y e s, y < k + 1 → gn g t x y = some e → S y = some s → e + s ≠ 0 := fun hk => ⟨_, _, rfl, S35, fun y e s hy he hs => by
      by_cases c : y = k
      · subst c; exact hk e s he hs
      · exact hno y e s (by omega) he hs⟩
    cases c : gn g t x k with
    | none =>
      refine st_ifF (vt_and0 (vt_test (va_op (va_var (v := .non) rfl) va_c vr_notNn))) ?_
      have := cont fun e s he _ => by rw [c] at he; cases he
      rw [c] at this
      exact this
    | some e =>
      cases c2 : S k with
      | none =>
        refine st_ifF (vt_andT (vt_test (va_op (va_var (v := .int e) rfl) va_c vr_notNi)) (vt_and0 (vt_test (va_op (va_is (va_op (va_var rfl) (va_var rfl) (vr_xLl (S35.l hs) hk4)) (oV_none c2)) va_c vr_notNn)))) ?_
        have := cont fun e s _ hs => by rw [c2] at hs; cases hs
        rw [c] at this
        exact this
      | some s =>
        refine st_if (b := decide (e + s = 0)) (vt_andT (vt_test (va_op (va_var (v := .int e) rfl) va_c vr_notNi)) (vt_andT (vt_test (va_op (va_is (va_op (va_var rfl) (va_var rfl) (vr_xLl (S35.l hs) hk4)) (oV_some c2)) va_c vr_notNi)) (vt_test (va_op (va_op (va_var (v := .int e) rfl) (va_is (va_op (va_var rfl) (va_var rfl) (vr_xLl (S35.l hs) hk4)) (oV_some c2)) vr_add) va_c vr_eqI)))) (fun hb => ?_) (fun hb => ?_)
        · have hkx : k ≠ x := fun z => by subst z; rw [gn_self] at c; cases c
          obtain ⟨m, hc, _⟩ := chain_of hB hx _ k (Nat.le_refl _) hk4 s c2
          obtain ⟨r1, r2⟩ := cring_ok hx hc hkx c
          refine st_retA (al_call (P := IsTupInt K (m + 1) (cring x F k)) (by walk_at "vs") fun Q E r => ⟨n, fA, F, x, k, m, _, s, rfl, S35.l hf, hT.le, hc, r⟩) fun v H6 S6 ⟨rA, ev, hrA⟩ => q v H6 ((S03.trans S35).trans S6) (.inr ⟨rA, m + 1, _, ev, hrA, r1, by rw [r2]; exact of_decide_eq_true hb, rfl⟩)
        · have := cont fun e' s' he hs => by rw [c] at he; rw [c2] at hs; cases he; cases hs; exact of_decide_eq_false hb
          rw [c] at this
          exact this
  · subst es
    exact st_ret va_c (q _ _ (S03.trans S4) (.inl ⟨rfl, fun y e s hy he hs => hno y e s hy he (by rw [bestS_eq hB hy]; exact hs)⟩))
end
end K45
set_option Elab.async false
set_option linter.all false
set_option maxRecDepth 100000
set_option maxHeartbeats 200000
namespace K45
open PySem PySem.Spec PyProof.Rows L2
abbrev s_barring_doors : Stmt := topS 48
theorem sc_barring_doors : FnScope ["table", "waits"] ["table", "waits"] (defScope s_barring_doors) := ⟨rfl, rfl, rfl, by decide +kernel, rfl, by decide +kernel, by decide +kernel⟩
def t_barring_doors (K : PySem.W.Frag) (sp_need_table_waits sp_greatest_sums sp_step_gains : Sp) : TS := (tSeq (tDrop (tCall sp_need_table_waits [] E0 (tCons (tCB (cLen K) (tCons (tVar 0) tNil)) (tCons (tVar 1) tNil))))
    (tRet (tOp (rIx K) (tCall sp_greatest_sums [] E0 (tCons (tCall sp_step_gains [] E0 (tCons (tVar 0) (tCons (tVar 1) tNil))) tNil)) (tC (.int 1)))))
theorem d_barring_doors {P : Program} {w : World} {K : PySem.W.Frag} {mg : Str → Option Value} {base : Heap} (B : Bif mg) {sp_need_table_waits sp_greatest_sums sp_step_gains : Sp} (c_need_table_waits : Cal P w K mg base 3 "need_table_waits" ["size", "waits"] sp_need_table_waits) (c_greatest_sums : Cal P w K mg base 2 "greatest_sums" ["gains"] sp_greatest_sums) (c_step_gains : Cal P w K mg base 1 "step_gains" ["table", "waits"] sp_step_gains) {f : Addr} {cdv : Value} {A : Around} {outer : List Env} {s : Shared} {H : Hp} {E : XK} (hr : Room 3 (A.deeper (envOfC "barring_doors" (defScope s_barring_doors) s.heap.objs.size f cdv))) :
    PSs (cxOf CX0 P w K mg base ["table", "waits"] "barring_doors" (defScope s_barring_doors) f cdv A outer s H E).nox (defBody s_barring_doors) (t_barring_doors K sp_need_table_waits sp_greatest_sums sp_step_gains) := by
  have nd := sc_barring_doors.nd
  exact (pss_cons (ps_expr (pe_cal c_need_table_waits hr (by decide) (by rfl) (pa_cons (pe_callB k_len (by rfl) B.len_ (by decide +kernel) (pa_cons (pv 0) pa_nil)) (pa_cons (pv 1) pa_nil))))
      (pss_one (ps_ret (pe_ix ix_seq (pe_cal c_greatest_sums hr (by decide) (by rfl) (pa_cons (pe_cal c_step_gains hr (by decide) (by rfl) (pa_cons (pv 0) (pa_cons (pv 1) pa_nil))) pa_nil)) pe_int (fun _ _ => rfl)))))

abbrev s_is_kept : Stmt := topS 49
theorem sc_is_kept : FnScope ["table", "waits"] ["table", "waits"] (defScope s_is_kept) := ⟨rfl, rfl, rfl, by decide +kernel, rfl, by decide +kernel, by decide +kernel⟩
def t_is_kept (K : PySem.W.Frag) (sp_barring_doors : Sp) : TS := (tRet (tOp kIsN (tCall sp_barring_doors [] E0 (tCons (tVar 0) (tCons (tVar 1) tNil))) (tC .non)))
theorem d_is_kept {P : Program} {w : World} {K : PySem.W.Frag} {mg : Str → Option Value} {base : Heap} (B : Bif mg) {sp_barring_doors : Sp} (c_barring_doors : Cal P w K mg base 4 "barring_doors" ["table", "waits"] sp_barring_doors) {f : Addr} {cdv : Value} {A : Around} {outer : List Env} {s : Shared} {H : Hp} {E : XK} (hr : Room 4 (A.deeper (envOfC "is_kept" (defScope s_is_kept) s.heap.objs.size f cdv))) :
    PSs (cxOf CX0 P w K mg base ["table", "waits"] "is_kept" (defScope s_is_kept) f cdv A outer s H E).nox (defBody s_is_kept) (t_is_kept K sp_barring_doors) := by
  have nd := sc_is_kept.nd
  exact (pss_one (ps_ret (pe_cmpR k_isN (pe_cal c_barring_doors hr (by decide) (by rfl) (pa_cons (pv 0) (pa_cons (pv 1) pa_nil))) pe_non (nomark _))))

abbrev s_bars_at : Stmt := topS 41
theorem sc_bars_at : FnScope ["table", "grain", "waits"] ["table", "grain", "waits"] (defScope s_bars_at) := ⟨rfl, rfl, rfl, by decide +kernel, rfl, by decide +kernel, by decide +kernel⟩
def t_bars_at (K : PySem.W.Frag) (sp_greatest_sums sp_coarse_gains : Sp) : TS := (tRet (tOp kNotN (tOp (rIx K) (tCall sp_greatest_sums [] E0 (tCons (tCall sp_coarse_gains [] E0 (tCons (tVar 0) (tCons (tVar 1) (tCons (tVar 2) tNil)))) tNil)) (tC (.int 1))) (tC .non)))
theorem d_bars_at {P : Program} {w : World} {K : PySem.W.Frag} {mg : Str → Option Value} {base : Heap} (B : Bif mg) {sp_greatest_sums sp_coarse_gains : Sp} (c_greatest_sums : Cal P w K mg base 2 "greatest_sums" ["gains"] sp_greatest_sums) (c_coarse_gains : Cal P w K mg base 2 "coarse_gains" ["table", "grain", "waits"] sp_coarse_gains) {f : Addr} {cdv : Value} {A : Around} {outer : List Env} {s : Shared} {H : Hp} {E : XK} (hr : Room 2 (A.deeper (envOfC "bars_at" (defScope s_bars_at) s.heap.objs.size f cdv))) :
    PSs (cxOf CX0 P w K mg base ["table", "grain", "waits"] "bars_at" (defScope s_bars_at) f cdv A outer s H E).nox (defBody s_bars_at) (t_bars_at K sp_greatest_sums sp_coarse_gains) := by
  have nd := sc_bars_at.nd
  exact (pss_one (ps_ret (pe_cmpR k_notN (pe_ix ix_seq (pe_cal c_greatest_sums hr (by decide) (by rfl) (pa_cons (pe_cal c_coarse_gains hr (by decide) (by rfl) (pa_cons (pv 0) (pa_cons (pv 1) (pa_cons (pv 2) pa_nil)))) pa_nil)) pe_int (fun _ _ => rfl)) pe_non (nomark _))))

abbrev s_is_kept_at : Stmt := topS 42
theorem sc_is_kept_at : FnScope ["table", "grain", "waits"] ["table", "grain", "waits"] (defScope s_is_kept_at) := ⟨rfl, rfl, rfl, by decide +kernel, rfl, by decide +kernel, by decide +kernel⟩
def t_is_kept_at (K : PySem.W.Frag) (sp_need_table_grain sp_need_table_waits sp_bars_at : Sp) : TS := (tSeq (tDrop (tCall sp_need_table_grain [] E0 (tCons (tVar 1) tNil)))
    (tSeq (tDrop (tCall sp_need_table_waits [] E0 (tCons (tCB (cLen K) (tCons (tVar 0) tNil)) (tCons (tVar 2) tNil))))
    (tRet (tNotV (tCall sp_bars_at [] E0 (tCons (tVar 0) (tCons (tVar 1) (tCons (tVar 2) tNil))))))))
theorem d_is_kept_at {P : Program} {w : World} {K : PySem.W.Frag} {mg : Str → Option Value} {base : Heap} (B : Bif mg) {sp_need_table_grain sp_need_table_waits sp_bars_at : Sp} (c_need_table_grain : Cal P w K mg base 3 "need_table_grain" ["grain"] sp_need_table_grain) (c_need_table_waits : Cal P w K mg base 3 "need_table_waits" ["size", "waits"] sp_need_table_waits) (c_bars_at : Cal P w K mg base 3 "bars_at" ["table", "grain", "waits"] sp_bars_at) {f : Addr} {cdv : Value} {A : Around} {outer : List Env} {s : Shared} {H : Hp} {E : XK} (hr : Room 3 (A.deeper (envOfC "is_kept_at" (defScope s_is_kept_at) s.heap.objs.size f cdv))) :
    PSs (cxOf CX0 P w K mg base ["table", "grain", "waits"] "is_kept_at" (defScope s_is_kept_at) f cdv A outer s H E).nox (defBody s_is_kept_at) (t_is_kept_at K sp_need_table_grain sp_need_table_waits sp_bars_at) := by
  have nd := sc_is_kept_at.nd
  exact (pss_cons (ps_expr (pe_cal c_need_table_grain hr (by decide) (by rfl) (pa_cons (pv 1) pa_nil)))
      (pss_cons (ps_expr (pe_cal c_need_table_waits hr (by decide) (by rfl) (pa_cons (pe_callB k_len (by rfl) B.len_ (by decide +kernel) (pa_cons (pv 0) pa_nil)) (pa_cons (pv 2) pa_nil))))
      (pss_one (ps_ret (pe_not (pe_cal c_bars_at hr (by decide) (by rfl) (pa_cons (pv 0) (pa_cons (pv 1) (pa_cons (pv 2) pa_nil)))))))))

abbrev s_least_barred : Stmt := topS 43
theorem sc_least_barred : FnScope ["table", "waits", "grain"] ["table", "waits"] (defScope s_least_barred) := ⟨rfl, rfl, rfl, by decide +kernel, rfl, by decide +kernel, by decide +kernel⟩
def t_least_barred (K : PySem.W.Frag) (sp_need_table_waits sp_greatest_sums sp_step_gains sp_bars_at : Sp) : TS := (tSeq (tDrop (tCall sp_need_table_waits [] E0 (tCons (tCB (cLen K) (tCons (tVar 0) tNil)) (tCons (tVar 1) tNil))))
    (tSeq (tIfS (tTest (tOp kIsN (tOp (rIx K) (tCall sp_greatest_sums [] E0 (tCons (tCall sp_step_gains [] E0 (tCons (tVar 0) (tCons (tVar 1) tNil))) tNil)) (tC (.int 1))) (tC .non))) (tRet (tC .non)) tNext)
    (tSeq (tFor (iRng2 (tCons (tC (.int 1)) (tCons (tCB (cLen K) (tCons (tVar 0) tNil)) tNil))) (gName 2) (tIfS (tB (tCall sp_bars_at [] E0 (tCons (tVar 0) (tCons (tVar 2) (tCons (tVar 1) tNil))))) (tRet (tVar 2)) tNext))
    (tRet (tCB (cLen K) (tCons (tVar 0) tNil))))))
theorem d_least_barred {P : Program} {w : World} {K : PySem.W.Frag} {mg : Str → Option Value} {base : Heap} (B : Bif mg) {sp_need_table_waits sp_greatest_sums sp_step_gains sp_bars_at : Sp} (c_need_table_waits : Cal P w K mg base 3 "need_table_waits" ["size", "waits"] sp_need_table_waits) (c_greatest_sums : Cal P w K mg base 2 "greatest_sums" ["gains"] sp_greatest_sums) (c_step_gains : Cal P w K mg base 1 "step_gains" ["table", "waits"] sp_step_gains) (c_bars_at : Cal P w K mg base 3 "bars_at" ["table", "grain", "waits"] sp_bars_at) {f : Addr} {cdv : Value} {A : Around} {outer : List Env} {s : Shared} {H : Hp} {E : XK} (hr : Room 3 (A.deeper (envOfC "least_barred" (defScope s_least_barred) s.heap.objs.size f cdv))) :
    PSs (cxOf CX0 P w K mg base ["table", "waits", "grain"] "least_barred" (defScope s_least_barred) f cdv A outer s H E).nox (defBody s_least_barred) (t_least_barred K sp_need_table_waits sp_greatest_sums sp_step_gains sp_bars_at) := by
  have nd := sc_least_barred.nd
  exact (pss_cons (ps_expr (pe_cal c_need_table_waits hr (by decide) (by rfl) (pa_cons (pe_callB k_len (by rfl) B.len_ (by decide +kernel) (pa_cons (pv 0) pa_nil)) (pa_cons (pv 1) pa_nil))))
      (pss_cons (ps_if (pt_cmpR k_isN (pe_ix ix_seq (pe_cal c_greatest_sums hr (by decide) (by rfl) (pa_cons (pe_cal c_step_gains hr (by decide) (by rfl) (pa_cons (pv 0) (pa_cons (pv 1) pa_nil))) pa_nil)) pe_int (fun _ _ => rfl)) pe_non (nomark _)) (pss_one (ps_ret pe_non)) pss_nil)
      (pss_cons (ps_for PassesOwn.never rfl (pi_range2 (by rfl) B.range_ (pa_cons pe_int (pa_cons (pe_callB k_len (by rfl) B.len_ (by decide +kernel) (pa_cons (pv 0) pa_nil)) pa_nil))) (pg_name (i := 2) nd rfl (Or.inl rfl)) (pss_one (ps_if (pt_val (pe_cal c_bars_at hr (by decide) (by rfl) (pa_cons (pv 0) (pa_cons (pv 2) (pa_cons (pv 1) pa_nil))))) (pss_one (ps_ret (pv 2))) pss_nil)))
      (pss_one (ps_ret (pe_callB k_len (by rfl) B.len_ (by decide +kernel) (pa_cons (pv 0) pa_nil)))))))

abbrev s_needed_wait : Stmt := topS 51
theorem sc_needed_wait : FnScope ["table", "waits", "door", "sums", "least", "first", "entry"] ["table", "waits", "door"] (defScope s_needed_wait) := ⟨rfl, rfl, rfl, by decide +kernel, rfl, by decide +kernel, by decide +kernel⟩
def t_needed_wait (K : PySem.W.Frag) (sp_sums_to sp_step_gains : Sp) : TS := (tSeq (tAsg (tOp (rIx K) (tCall sp_sums_to [] E0 (tCons (tCall sp_step_gains [] E0 (tCons (tVar 0) (tCons (tVar 1) tNil))) (tCons (tVar 2) tNil))) (tC (.int 0))) (gName 3))
    (tSeq (tAsg (tC (.int 0)) (gName 4))
    (tSeq (tFor (iEnumT K (tCons (tOp (rIx K) (tVar 0) (tVar 2)) tNil)) (gTup K 2 (gCons (gName 5) (gCons (gName 6) gNil))) (tIfS (tAnd (tTest (tOp rNe (tVar 5) (tVar 2))) (tAnd (tTest (tOp kNotN (tVar 6) (tC .non))) (tTest (tOp kNotN (tOp (rIx K) (tVar 3) (tVar 5)) (tC .non))))) (tAsg (tCB cMax2 (tCons (tVar 4) (tCons (tOp rAdd (tVar 6) (tOp (rIx K) (tVar 3) (tVar 5))) tNil))) (gName 4)) tNext))
    (tRet (tVar 4)))))
theorem d_needed_wait {P : Program} {w : World} {K : PySem.W.Frag} {mg : Str → Option Value} {base : Heap} (B : Bif mg) {sp_sums_to sp_step_gains : Sp} (c_sums_to : Cal P w K mg base 1 "sums_to" ["gains", "goal"] sp_sums_to) (c_step_gains : Cal P w K mg base 1 "step_gains" ["table", "waits"] sp_step_gains) {f : Addr} {cdv : Value} {A : Around} {outer : List Env} {s : Shared} {H : Hp} {E : XK} (hr : Room 1 (A.deeper (envOfC "needed_wait" (defScope s_needed_wait) s.heap.objs.size f cdv))) :
    PSs (cxOf CX0 P w K mg base ["table", "waits", "door", "sums", "least", "first", "entry"] "needed_wait" (defScope s_needed_wait) f cdv A outer s H E).nox (defBody s_needed_wait) (t_needed_wait K sp_sums_to sp_step_gains) := by
  have nd := sc_needed_wait.nd
  exact (pss_cons (ps_set (i := 3) nd rfl (Or.inl rfl) (pe_ix ix_seq (pe_cal c_sums_to hr (by decide) (by rfl) (pa_cons (pe_cal c_step_gains hr (by decide) (by rfl) (pa_cons (pv 0) (pa_cons (pv 1) pa_nil))) (pa_cons (pv 2) pa_nil))) pe_int (fun _ _ => rfl)))
      (pss_cons (ps_set (i := 4) nd rfl (Or.inl rfl) pe_int)
      (pss_cons (ps_for PassesOwn.never rfl (pi_enumT (by rfl) B.enumerate_ (pa_cons (pe_ix ix_seq (pv 0) (pv 2) (fun _ _ => rfl)) pa_nil)) (pg_tup rfl (pgs_cons (pg_name (i := 5) nd rfl (Or.inl rfl)) (pgs_cons (pg_name (i := 6) nd rfl (Or.inl rfl)) pgs_nil))) (pss_one (ps_if (PW.pt (pw_and (pt_cmpR op_ne (pv 5) (pv 2) (nomark _)) (pw_and (pt_cmpR k_notN (pv 6) pe_non (nomark _)) (pw_and1 (pt_cmpR k_notN (pe_ix ix_seq (pv 3) (pv 5) (fun _ _ => rfl)) pe_non (nomark _)))))) (pss_one (ps_set (i := 4) nd rfl (Or.inl rfl) (pe_callB (k_max2 rfl) (by rfl) B.max_ (by decide +kernel) (pa_cons (pv 4) (pa_cons (pe_op k_add (pv 6) (pe_ix ix_seq (pv 3) (pv 5) (fun _ _ => rfl))) pa_nil))))) pss_nil)))
      (pss_one (ps_ret (pv 4))))))

section
variable {P : Program} {w : World} {K : PySem.W.Frag} {mg : Str → Option Value} {base : Heap}
/-! ### kept, at a grain -/
abbrev IsB (p : Prop) : V → Hp → Prop := fun v _ => ∃ b, v = .bl b ∧ (b = true ↔ p)
def spBarring (K : PySem.W.Frag) : Sp := fun vs H Q _ => ∃ (n : Nat) (a b : Addr) (g : Gr) (t : Nat → Int), vs = [.ref a, .ref b] ∧ TW K H n a b g t ∧ NN n t ∧ Ret (RingOr K n (gn g t)) H Q
theorem cal_barring_doors (T : Txt K mg) : Cal P w K mg base 4 "barring_doors" ["table", "waits"] (spBarring K) := by
  refine T.barring_doors.cal sc_barring_doors (fun vs H Q E h => ?_) (fun f cdv A outer s H vs Q E hr h => ⟨_, d_barring_doors T.B (cal_need_table_waits T) (cal_greatest_sums T) (cal_step_gains T) hr, ?_⟩)
  · obtain ⟨n, a, b, g, t, rfl, _⟩ := h; rfl
  obtain ⟨n, a, b, g, t, rfl, hT, h0, q⟩ := h
  unfold t_barring_doors
  refine q_dropA (al_ntw hT h0 (va_var rfl) (va_var rfl)) fun v H1 S1 _ => ?_
  have hT1 := hT.mono S1
  exact st_retA (al_ringAt (al_gsOf hT.one hT.le (gn_self g t) (al_sg hT1 (va_var rfl) (va_var rfl)))) fun v H2 S2 p => q v H2 (S1.trans S2) p
def spIsKept (K : PySem.W.Frag) : Sp := fun vs H Q _ => ∃ (n : Nat) (a b : Addr) (g : Gr) (t : Nat → Int), vs = [.ref a, .ref b] ∧ TW K H n a b g t ∧ NN n t ∧ Ret (IsB (Kept n g t)) H Q
theorem cal_is_kept (T : Txt K mg) : Cal P w K mg base 5 "is_kept" ["table", "waits"] (spIsKept K) := by
  refine T.is_kept.cal sc_is_kept (fun vs H Q E h => ?_) (fun f cdv A outer s H vs Q E hr h => ⟨_, d_is_kept T.B (cal_barring_doors T) hr, ?_⟩)
  · obtain ⟨n, a, b, g, t, rfl, _⟩ := h; rfl
  obtain ⟨n, a, b, g, t, rfl, hT, h0, q⟩ := h
  unfold t_is_kept
  exact st_retA (al_isN (al_call (P := RingOr K n (gn g t)) (by walk_at "vs") fun Q E r => ⟨n, a, b, g, t, rfl, hT, h0, r⟩) fun v H1 S1 p => ⟨_, rfl, p.dec⟩) fun v H2 S2 p => q v H2 S2 p
def spBarsAt (K : PySem.W.Frag) : Sp := fun vs H Q _ => ∃ (n : Nat) (a b : Addr) (g : Gr) (t : Nat → Int) (k : Int), vs = [.ref a, .int k, .ref b] ∧ TW K H n a b g t ∧ 0 ≤ k ∧ k ≤ 1000 ∧ Ret (IsB (¬ KeptAt n g t k)) H Q
theorem cal_bars_at (T : Txt K mg) : Cal P w K mg base 3 "bars_at" ["table", "grain", "waits"] (spBarsAt K) := by
  refine T.bars_at.cal sc_bars_at (fun vs H Q E h => ?_) (fun f cdv A outer s H vs Q E hr h => ⟨_, d_bars_at T.B (cal_greatest_sums T) (cal_coarse_gains T) hr, ?_⟩)
  · obtain ⟨n, a, b, g, t, k, rfl, _⟩ := h; rfl
  obtain ⟨n, a, b, g, t, k, rfl, hT, hk0, hk1, q⟩ := h
  unfold t_bars_at
  refine st_retA (al_notN (al_ringAt (al_gsOf (u := cg n k (gn g t)) hT.one hT.le (cg_self (gn_self g t)) (al_call (by walk_at "vs") fun Q E r => ⟨n, a, b, g, t, k, rfl, hT.tab, hT.wai, hT.le, hk0, hk1, r⟩))) fun v H1 S1 p => ⟨_, rfl, ?_⟩) fun v H2 S2 p => q v H2 S2 p
  have := p.dec
  constructor
  · intro hb hk
    have e := this.mpr hk
    rw [e] at hb; cases hb
  · intro hk
    cases c : decide (v = V.non) with
    | true => exact absurd (this.mp c) hk
    | false => rfl
def spKeptAt (K : PySem.W.Frag) : Sp := fun vs H Q _ => ∃ (n : Nat) (a b : Addr) (g : Gr) (t : Nat → Int) (k : Int), vs = [.ref a, .int k, .ref b] ∧ TW K H n a b g t ∧ NN n t ∧ 1 ≤ k ∧ k ≤ 1000 ∧ Ret (IsB (KeptAt n g t k)) H Q
theorem cal_is_kept_at (T : Txt K mg) : Cal P w K mg base 4 "is_kept_at" ["table", "grain", "waits"] (spKeptAt K) := by
  refine T.is_kept_at.cal sc_is_kept_at (fun vs H Q E h => ?_) (fun f cdv A outer s H vs Q E hr h => ⟨_, d_is_kept_at T.B (cal_need_table_grain T) (cal_need_table_waits T) (cal_bars_at T) hr, ?_⟩)
  · obtain ⟨n, a, b, g, t, k, rfl, _⟩ := h; rfl
  obtain ⟨n, a, b, g, t, k, rfl, hT, h0, hk0, hk1, q⟩ := h
  unfold t_is_kept_at
  refine q_drop (v := .non) (va_call (z := .non) (by walk_at "vs") fun Q E q => ⟨k, rfl, hk0, q⟩) ?_
  refine q_dropA (al_ntw hT h0 (va_var rfl) (va_var rfl)) fun v H1 S1 _ => ?_
  have hT1 := hT.mono S1
  refine st_retA (al_not (al_call (P := IsB (¬ KeptAt n g t k)) (by walk_at "vs") fun Q E r => ⟨n, a, b, g, t, k, rfl, hT1, by omega, hk1, r⟩) fun v H2 S2 ⟨b, ev, hb⟩ => ⟨b, ev, _, rfl, ?_⟩) fun v H2 S2 p => q v H2 (S1.trans S2) p
  cases b with
  | true => exact ⟨fun z => (by cases z), fun z => absurd z (hb.mp rfl)⟩
  | false => exact ⟨fun _ => Classical.byContradiction fun z => Bool.noConfusion (hb.mpr z), fun _ => rfl⟩
def LeastB (n : Nat) (g : Gr) (t : Nat → Int) : V → Hp → Prop := fun v _ => (Kept n g t ∧ v = .non) ∨ (¬ Kept n g t ∧ ∃ k : Nat, v = .int (k : Int) ∧ 1 ≤ k ∧ k ≤ n ∧ (∀ j : Nat, 1 ≤ j → j < k → KeptAt n g t (j : Int)) ∧ (k = n ∨ ¬ KeptAt n g t (k : Int)))
def spLeastBarred (K : PySem.W.Frag) : Sp := fun vs H Q _ => ∃ (n : Nat) (a b : Addr) (g : Gr) (t : Nat → Int), vs = [.ref a, .ref b] ∧ TW K H n a b g t ∧ NN n t ∧ Ret (LeastB n g t) H Q
theorem st_forR2 {σ : L2.St} {H : Hp} {tr : TA} {j : Nat} {tu : TS} {D : Ends} {lo hi : Int} {n : Nat} (h : Vs tr σ H [.int lo, .int hi]) (hl : 0 ≤ lo) (hn : hi = lo + n) (hb : lo + n ≤ 100000) (Pv : Nat → L2.St → Hp → Prop) (h0 : Pv 0 σ H)
    (hs : ∀ i σ' H', i < n → Pv i σ' H' → tu { D with nx := Pv (i + 1), ct := Pv (i + 1), bk := D.nx } (σ'.set j (some (.int (lo + (i : Int))))) H') (hd : ∀ σ' H', Pv n σ' H' → D.nx σ' H') : tFor (iRng2 tr) (gName j) tu D σ H :=
  h _ ⟨lo, hi, rfl, ⟨by omega, by omega, by omega, by omega⟩, for_range (lo := lo) (n := (hi - lo).toNat) Pv h0 (fun i σ' H' hi' p => hs i σ' H' (by omega) p) (fun σ' H' p => hd σ' H' (by
    have e : (hi - lo).toNat = n := by omega
    rw [e] at p
    exact p))⟩
theorem q_forR2 {σ : L2.St} {H : Hp} {tr : TA} {j : Nat} {tu tz : TS} {D : Ends} {lo hi : Int} {n : Nat} (h : Vs tr σ H [.int lo, .int hi]) (hl : 0 ≤ lo) (hn : hi = lo + n) (hb : lo + n ≤ 100000) (Pv : Nat → L2.St → Hp → Prop) (h0 : Pv 0 σ H)
    (hs : ∀ i σ' H', i < n → Pv i σ' H' → tu { D with nx := Pv (i + 1), ct := Pv (i + 1), bk := tz D } (σ'.set j (some (.int (lo + (i : Int))))) H') (hd : ∀ σ' H', Pv n σ' H' → tz D σ' H') : tSeq (tFor (iRng2 tr) (gName j) tu) tz D σ H := st_forR2 (D := { D with nx := tz D }) h hl hn hb Pv h0 hs hd
theorem cal_least_barred (T : Txt K mg) : Cal P w K mg base 4 "least_barred" ["table", "waits"] (spLeastBarred K) := by
  refine T.least_barred.cal sc_least_barred (fun vs H Q E h => ?_) (fun f cdv A outer s H vs Q E hr h => ⟨_, d_least_barred T.B (cal_need_table_waits T) (cal_greatest_sums T) (cal_step_gains T) (cal_bars_at T) hr, ?_⟩)
  · obtain ⟨n, a, b, g, t, rfl, _⟩ := h; rfl
  obtain ⟨n, a, b, g, t, rfl, hT, h0, q⟩ := h
  have hn1 := hT.one
  have hn := hT.le
  unfold t_least_barred
  refine q_dropA (al_ntw hT h0 (va_var rfl) (va_var rfl)) fun v H1 S1 _ => ?_
  have hT1 := hT.mono S1
  refine q_ifQn (p := fun b _ => b = true ↔ Kept n g t) (aq_test (al_isN (P2 := IsB (Kept n g t)) (al_ringAt (al_gsOf hT.one hT.le (gn_self g t) (al_sg hT1 (va_var rfl) (va_var rfl)))) fun v H2 S2 p => ⟨_, rfl, p.dec⟩) fun v H2 S2 p => p) (fun H2 S2 p => ?_) (fun H2 S2 p => ?_)
  · exact st_ret va_c (q _ _ (S1.trans S2) (.inl ⟨p.mp rfl, rfl⟩))
  have nk : ¬ Kept n g t := fun z => by have := p.mpr z; cases this
  have hT2 := hT1.mono S2
  refine q_forR2 (lo := 1) (hi := (n : Int)) (n := n - 1) (vs_cons va_c (vs_cons (va_cb (by walk_at "vs") (vc_lenTT hT2.tab)) vs_nil)) (by omega) (by omega) (by omega) (fun i σ' H' => (∃ v, σ' = [some (.ref a), some (.ref b), v]) ∧ Same H2 H' ∧ ∀ j : Nat, 1 ≤ j → j < i + 1 → KeptAt n g t (j : Int)) ⟨⟨_, rfl⟩, Same.refl _, fun j h1 h2 => by omega⟩ (fun i σ' H' hi ⟨⟨v, es⟩, S, hk⟩ => ?_) (fun σ' H' ⟨⟨v, es⟩, S, hk⟩ => ?_)
  · subst es
    refine st_ifQ (p := fun b _ => b = true ↔ ¬ KeptAt n g t (1 + (i : Int))) (aq_B (al_call (P := IsB (¬ KeptAt n g t (1 + (i : Int)))) (by walk_at "vs") fun Q E r => ⟨n, a, b, g, t, 1 + (i : Int), rfl, hT2.mono S, by omega, by omega, r⟩) fun v H3 S3 p => p) (fun H3 S3 p => ?_) (fun H3 S3 p => ?_)
    · refine st_ret (va_var rfl) (q _ _ ((S1.trans S2).trans (S.trans S3)) (.inr ⟨nk, i + 1, ?_, by omega, by omega, fun j h1 h2 => hk j h1 h2, .inr ?_⟩))
      · have e : (1 + (i : Int)) = ((i + 1 : Nat) : Int) := by omega
        rw [e]
      · have := p.mp rfl
        have e : (1 + (i : Int)) = ((i + 1 : Nat) : Int) := by omega
        rw [e] at this
        exact this
    · refine ⟨⟨_, rfl⟩, S.trans S3, fun j h1 h2 => ?_⟩
      by_cases c : j < i + 1
      · exact hk j h1 c
      · have e : j = i + 1 := by omega
        subst e
        refine Classical.byContradiction fun z => ?_
        have e : (1 + (i : Int)) = ((i + 1 : Nat) : Int) := by omega
        rw [e] at p
        have := p.mpr z
        cases this
  · subst es
    exact st_ret (va_cb (vs_cons (va_var rfl) vs_nil) (vc_lenTT (hT2.mono S).tab)) (q _ _ ((S1.trans S2).trans S) (.inr ⟨nk, n, rfl, hn1, Nat.le_refl _, fun j h1 h2 => hk j h1 (by omega), .inl rfl⟩))
/-! ### least waits -/
def spNeeded (K : PySem.W.Frag) : Sp := fun vs H Q _ => ∃ (n : Nat) (a b : Addr) (g : Gr) (t : Nat → Int) (x : Nat), vs = [.ref a, .ref b, .int (x : Int)] ∧ TW K H n a b g t ∧ KeptO n g t x ∧ x < n ∧ Ret (fun v _ => v = .int (needF n g t x)) H Q
theorem cal_needed_wait (T : Txt K mg) : Cal P w K mg base 2 "needed_wait" ["table", "waits", "door"] (spNeeded K) := by
  refine T.needed_wait.cal sc_needed_wait (fun vs H Q E h => ?_) (fun f cdv A outer s H vs Q E hr h => ⟨_, d_needed_wait T.B (cal_sums_to T) (cal_step_gains T) hr, ?_⟩)
  · obtain ⟨n, a, b, g, t, x, rfl, _⟩ := h; rfl
  obtain ⟨n, a, b, g, t, x, rfl, hT, hk, hx, q⟩ := h
  unfold t_needed_wait
  refine q_asgA (al_st0 (al_stA hT.le (gn_self g t) hx (al_sg hT (va_var rfl) (va_var rfl)) (cut_pot hk) fun H2 _ => va_var rfl)) fun v H1 S1 ⟨sA, ev, hs⟩ => ?_
  subst ev
  refine q_asg (v := .int 0) va_c ?_
  obtain ⟨ad, hg1, hg2⟩ := S1.tt hT.tab
  refine q_forET (a := ad x) (n := n) (f := fun y => oV (g x y)) (va_op (va_var rfl) (va_var rfl) (vr_xTt (f := fun i => .ref (ad i)) hg1 hx)) (fun k σ' H' => ∃ v5 v6, σ' = [some (.ref a), some (.ref b), some (.int (x : Int)), some (.ref sA), some (.int (nfold g x (bestS n (gn g t) x) k)), v5, v6] ∧ Same H1 H')
    ⟨none, none, rfl, Same.refl _⟩ (fun k σ' H' ⟨v5, v6, _, S⟩ => S.t (hg2 x hx)) (fun k σ' H' H3 hk4 ⟨v5, v6, es, S⟩ S2 => ?_) (fun σ' H' ⟨v5, v6, es, S⟩ => ?_)
  · subst es
    have S3 := S.trans S2
    have en : nfold g x (bestS n (gn g t) x) (k + 1) = nstep g x (bestS n (gn g t) x) k (nfold g x (bestS n (gn g t) x) k) := rfl
    rw [en]
    generalize nfold g x (bestS n (gn g t) x) k = N
    by_cases hkx : k = x
    · have e1 : nstep g x (bestS n (gn g t) x) k N = N := if_pos hkx
      rw [e1]
      exact st_ifF (vt_and0 (vt_is (vt_test (va_op (va_var rfl) (va_var rfl) vr_neI)) (by rw [hkx, decide_eq_true rfl]; rfl))) ⟨_, _, rfl, S3⟩
    · have t1 : ∀ σ : L2.St, σ[5]? = some (some (V.int (k : Int))) → σ[2]? = some (some (V.int (x : Int))) → Vt (tTest (tOp rNe (tVar 5) (tVar 2))) σ H3 true := fun σ h5 h2 => vt_is (vt_test (va_op (va_var h5) (va_var h2) vr_neI)) (by rw [decide_eq_false (by omega)]; rfl)
      cases c : g x k with
      | none =>
        have e1 : nstep g x (bestS n (gn g t) x) k N = N := by unfold nstep; rw [if_neg hkx, c]
        rw [e1]
        exact st_ifF (vt_andT (t1 _ rfl rfl) (vt_and0 (vt_test (va_op (va_var (v := .non) rfl) va_c vr_notNn)))) ⟨_, _, rfl, S3⟩
      | some e =>
        cases c2 : bestS n (gn g t) x k with
        | none =>
          have e1 : nstep g x (bestS n (gn g t) x) k N = N := by unfold nstep; rw [if_neg hkx, c, c2]
          rw [e1]
          exact st_ifF (vt_andT (t1 _ rfl rfl) (vt_andT (vt_test (va_op (va_var (v := .int e) rfl) va_c vr_notNi)) (vt_test (va_op (va_is (va_op (va_var rfl) (va_var rfl) (vr_xLl (S3.l hs) hk4)) (oV_none c2)) va_c vr_notNn)))) ⟨_, _, rfl, S3⟩
        | some s =>
          have e1 : nstep g x (bestS n (gn g t) x) k N = if e + s > N then e + s else N := by unfold nstep; rw [if_neg hkx, c, c2]
          rw [e1]
          refine st_ifT (vt_andT (t1 _ rfl rfl) (vt_andT (vt_test (va_op (va_var (v := .int e) rfl) va_c vr_notNi)) (vt_test (va_op (va_is (va_op (va_var rfl) (va_var rfl) (vr_xLl (S3.l hs) hk4)) (oV_some c2)) va_c vr_notNi)))) ?_
          exact st_asg (va_cb (vs_cons (va_var rfl) (vs_cons (va_op (va_var (v := .int e) rfl) (va_is (va_op (va_var rfl) (va_var rfl) (vr_xLl (S3.l hs) hk4)) (oV_some c2)) vr_add) vs_nil)) vc_max2) ⟨_, _, rfl, S3⟩
  · subst es
    exact st_ret (va_var rfl) (q _ _ (S1.trans S) rfl)
end
end K45
set_option Elab.async false
set_option linter.all false
set_option maxRecDepth 100000
set_option maxHeartbeats 200000
namespace K45
open PySem PySem.Spec PyProof.Rows L2
abbrev s_others_barred : Stmt := topS 52
theorem sc_others_barred : FnScope ["table", "waits", "door", "gains", "size", "others", "x", "y"] ["table", "waits", "door"] (defScope s_others_barred) := ⟨rfl, rfl, rfl, by decide +kernel, rfl, by decide +kernel, by decide +kernel⟩
def t_others_barred (K : PySem.W.Frag) (sp_step_gains sp_greatest_sums : Sp) : TS := (tSeq (tAsg (tCall sp_step_gains [] E0 (tCons (tVar 0) (tCons (tVar 1) tNil))) (gName 3))
    (tSeq (tAsg (tCB (cLen K) (tCons (tVar 0) tNil)) (gName 4))
    (tSeq (tAsg (tLc (iRng1 (tCons (tVar 4) tNil)) (gName 6) tYes (tLc (iRng1 (tCons (tVar 4) tNil)) (gName 7) tYes (tIf (tTest (tOp (rIn K false) (tVar 2) (tTup (tCons (tVar 6) (tCons (tVar 7) tNil))))) (tC .non) (tOp (rIx K) (tOp (rIx K) (tVar 3) (tVar 6)) (tVar 7))) [7]) [6]) (gName 5))
    (tRet (tOp kNotN (tOp (rIx K) (tCall sp_greatest_sums [] E0 (tCons (tVar 5) tNil)) (tC (.int 1))) (tC .non))))))
theorem d_others_barred {P : Program} {w : World} {K : PySem.W.Frag} {mg : Str → Option Value} {base : Heap} (B : Bif mg) {sp_step_gains sp_greatest_sums : Sp} (c_step_gains : Cal P w K mg base 1 "step_gains" ["table", "waits"] sp_step_gains) (c_greatest_sums : Cal P w K mg base 2 "greatest_sums" ["gains"] sp_greatest_sums) {f : Addr} {cdv : Value} {A : Around} {outer : List Env} {s : Shared} {H : Hp} {E : XK} (hr : Room 2 (A.deeper (envOfC "others_barred" (defScope s_others_barred) s.heap.objs.size f cdv))) :
    PSs (cxOf CX0 P w K mg base ["table", "waits", "door", "gains", "size", "others", "x", "y"] "others_barred" (defScope s_others_barred) f cdv A outer s H E).nox (defBody s_others_barred) (t_others_barred K sp_step_gains sp_greatest_sums) := by
  have nd := sc_others_barred.nd
  exact (pss_cons (ps_set (i := 3) nd rfl (Or.inr rfl) (pe_cal c_step_gains hr (by decide) (by rfl) (pa_cons (pv 0) (pa_cons (pv 1) pa_nil))))
      (pss_cons (ps_set (i := 4) nd rfl (Or.inr rfl) (pe_callB k_len (by rfl) B.len_ (by decide +kernel) (pa_cons (pv 0) pa_nil)))
      (pss_cons (ps_setLc (i := 5) (own := [("x", 6)]) rfl nd rfl rfl (sw_true rfl rfl rfl (by decide +kernel)) (pi_range1 (by rfl) B.range_ (pa_cons (pv 4) pa_nil)) (blkOk_by (own := [("x", 6)]) (by kernel_rfl)) (fun _ _ _ _ _ => (pg_name (i := 6) nd rfl (Or.inr rfl))) (fun _ _ _ _ _ => pts_nil) (fun _ _ _ _ _ => (pe_lc (own := [("y", 7)]) rfl nd (pi_range1 (by rfl) B.range_ (pa_cons (pv 4) pa_nil)) (blkOk_by (own := [("y", 7)]) (by kernel_rfl)) (fun _ _ _ _ _ => (pg_name (i := 7) nd rfl (Or.inl rfl))) (fun _ _ _ _ _ => pts_nil) (fun _ _ _ _ _ => (pe_ifExp (pt_cmpR op_in_seq (pv 2) (pe_tup (pa_cons (pv 6) (pa_cons (pv 7) pa_nil))) (by rfl)) pe_non (pe_ix ix_seq (pe_ix ix_seq (pv 3) (pv 6) (fun _ _ => rfl)) (pv 7) (fun _ _ => rfl)))))))
      (pss_one (ps_ret (pe_cmpR k_notN (pe_ix ix_seq (pe_cal c_greatest_sums hr (by decide) (by rfl) (pa_cons (pv 5) pa_nil)) pe_int (fun _ _ => rfl)) pe_non (nomark _)))))))

abbrev s_least_wait : Stmt := topS 53
theorem sc_least_wait : FnScope ["table", "waits", "door"] ["table", "waits", "door"] (defScope s_least_wait) := ⟨rfl, rfl, rfl, by decide +kernel, rfl, by decide +kernel, by decide +kernel⟩
def t_least_wait (K : PySem.W.Frag) (sp_need_table_waits sp_need_table_door sp_others_barred sp_needed_wait : Sp) : TS := (tSeq (tDrop (tCall sp_need_table_waits [] E0 (tCons (tCB (cLen K) (tCons (tVar 0) tNil)) (tCons (tVar 1) tNil))))
    (tSeq (tDrop (tCall sp_need_table_door [] E0 (tCons (tCB (cLen K) (tCons (tVar 0) tNil)) (tCons (tVar 2) tNil))))
    (tSeq (tIfS (tB (tCall sp_others_barred [] E0 (tCons (tVar 0) (tCons (tVar 1) (tCons (tVar 2) tNil))))) (tRet (tC .non)) tNext)
    (tRet (tCall sp_needed_wait [] E0 (tCons (tVar 0) (tCons (tVar 1) (tCons (tVar 2) tNil))))))))
theorem d_least_wait {P : Program} {w : World} {K : PySem.W.Frag} {mg : Str → Option Value} {base : Heap} (B : Bif mg) {sp_need_table_waits sp_need_table_door sp_others_barred sp_needed_wait : Sp} (c_need_table_waits : Cal P w K mg base 3 "need_table_waits" ["size", "waits"] sp_need_table_waits) (c_need_table_door : Cal P w K mg base 4 "need_table_door" ["size", "door"] sp_need_table_door) (c_others_barred : Cal P w K mg base 3 "others_barred" ["table", "waits", "door"] sp_others_barred) (c_needed_wait : Cal P w K mg base 2 "needed_wait" ["table", "waits", "door"] sp_needed_wait) {f : Addr} {cdv : Value} {A : Around} {outer : List Env} {s : Shared} {H : Hp} {E : XK} (hr : Room 4 (A.deeper (envOfC "least_wait" (defScope s_least_wait) s.heap.objs.size f cdv))) :
    PSs (cxOf CX0 P w K mg base ["table", "waits", "door"] "least_wait" (defScope s_least_wait) f cdv A outer s H E).nox (defBody s_least_wait) (t_least_wait K sp_need_table_waits sp_need_table_door sp_others_barred sp_needed_wait) := by
  have nd := sc_least_wait.nd
  exact (pss_cons (ps_expr (pe_cal c_need_table_waits hr (by decide) (by rfl) (pa_cons (pe_callB k_len (by rfl) B.len_ (by decide +kernel) (pa_cons (pv 0) pa_nil)) (pa_cons (pv 1) pa_nil))))
      (pss_cons (ps_expr (pe_cal c_need_table_door hr (by decide) (by rfl) (pa_cons (pe_callB k_len (by rfl) B.len_ (by decide +kernel) (pa_cons (pv 0) pa_nil)) (pa_cons (pv 2) pa_nil))))
      (pss_cons (ps_if (pt_val (pe_cal c_others_barred hr (by decide) (by rfl) (pa_cons (pv 0) (pa_cons (pv 1) (pa_cons (pv 2) pa_nil))))) (pss_one (ps_ret pe_non)) pss_nil)
      (pss_one (ps_ret (pe_cal c_needed_wait hr (by decide) (by rfl) (pa_cons (pv 0) (pa_cons (pv 1) (pa_cons (pv 2) pa_nil)))))))))

abbrev s_is_bare : Stmt := topS 54
theorem sc_is_bare : FnScope ["table", "waits", "door", "wait"] ["table", "waits"] (defScope s_is_bare) := ⟨rfl, rfl, rfl, by decide +kernel, rfl, by decide +kernel, by decide +kernel⟩
def t_is_bare (K : PySem.W.Frag) (sp_need_table_waits sp_greatest_sums sp_step_gains sp_needed_wait : Sp) : TS := (tSeq (tDrop (tCall sp_need_table_waits [] E0 (tCons (tCB (cLen K) (tCons (tVar 0) tNil)) (tCons (tVar 1) tNil))))
    (tSeq (tIfS (tTest (tOp kNotN (tOp (rIx K) (tCall sp_greatest_sums [] E0 (tCons (tCall sp_step_gains [] E0 (tCons (tVar 0) (tCons (tVar 1) tNil))) tNil)) (tC (.int 1))) (tC .non))) (tRet (tC (.bl false))) tNext)
    (tRet (tCB (rAll K) (tCons (tLc (iEnumT K (tCons (tVar 1) tNil)) (gTup K 2 (gCons (gName 2) (gCons (gName 3) gNil))) tYes (tOp rEq (tVar 3) (tCall sp_needed_wait [] E0 (tCons (tVar 0) (tCons (tVar 1) (tCons (tVar 2) tNil))))) [2, 3]) tNil)))))
theorem d_is_bare {P : Program} {w : World} {K : PySem.W.Frag} {mg : Str → Option Value} {base : Heap} (B : Bif mg) {sp_need_table_waits sp_greatest_sums sp_step_gains sp_needed_wait : Sp} (c_need_table_waits : Cal P w K mg base 3 "need_table_waits" ["size", "waits"] sp_need_table_waits) (c_greatest_sums : Cal P w K mg base 2 "greatest_sums" ["gains"] sp_greatest_sums) (c_step_gains : Cal P w K mg base 1 "step_gains" ["table", "waits"] sp_step_gains) (c_needed_wait : Cal P w K mg base 2 "needed_wait" ["table", "waits", "door"] sp_needed_wait) {f : Addr} {cdv : Value} {A : Around} {outer : List Env} {s : Shared} {H : Hp} {E : XK} (hr : Room 3 (A.deeper (envOfC "is_bare" (defScope s_is_bare) s.heap.objs.size f cdv))) :
    PSs (cxOf CX0 P w K mg base ["table", "waits", "door", "wait"] "is_bare" (defScope s_is_bare) f cdv A outer s H E).nox (defBody s_is_bare) (t_is_bare K sp_need_table_waits sp_greatest_sums sp_step_gains sp_needed_wait) := by
  have nd := sc_is_bare.nd
  exact (pss_cons (ps_expr (pe_cal c_need_table_waits hr (by decide) (by rfl) (pa_cons (pe_callB k_len (by rfl) B.len_ (by decide +kernel) (pa_cons (pv 0) pa_nil)) (pa_cons (pv 1) pa_nil))))
      (pss_cons (ps_if (pt_cmpR k_notN (pe_ix ix_seq (pe_cal c_greatest_sums hr (by decide) (by rfl) (pa_cons (pe_cal c_step_gains hr (by decide) (by rfl) (pa_cons (pv 0) (pa_cons (pv 1) pa_nil))) pa_nil)) pe_int (fun _ _ => rfl)) pe_non (nomark _)) (pss_one (ps_ret pe_bl)) pss_nil)
      (pss_one (ps_ret (pe_callB (cr_all rfl) (by rfl) B.all_ (by decide +kernel) (pa_cons (pe_lc (own := [("door", 2), ("wait", 3)]) rfl nd (pi_enumT (by rfl) B.enumerate_ (pa_cons (pv 1) pa_nil)) (blkOk_by (own := [("door", 2), ("wait", 3)]) (by kernel_rfl)) (fun _ _ _ _ _ => (pg_tup rfl (pgs_cons (pg_name (i := 2) nd rfl (Or.inl rfl)) (pgs_cons (pg_name (i := 3) nd rfl (Or.inl rfl)) pgs_nil)))) (fun _ _ _ _ _ => pts_nil) (fun _ _ _ _ _ => (pe_cmpR op_eq (pv 3) (pe_cal c_needed_wait hr (by decide) (by rfl) (pa_cons (pv 0) (pa_cons (pv 1) (pa_cons (pv 2) pa_nil)))) (nomark _)))) pa_nil))))))

section
variable {P : Program} {w : World} {K : PySem.W.Frag} {mg : Str → Option Value} {base : Heap}
def spOthersBarred (K : PySem.W.Frag) : Sp := fun vs H Q _ => ∃ (n : Nat) (a b : Addr) (g : Gr) (t : Nat → Int) (x : Nat), vs = [.ref a, .ref b, .int (x : Int)] ∧ TW K H n a b g t ∧ x < n ∧ Ret (IsB (¬ KeptO n g t x)) H Q
theorem cal_others_barred (T : Txt K mg) : Cal P w K mg base 3 "others_barred" ["table", "waits", "door"] (spOthersBarred K) := by
  refine T.others_barred.cal sc_others_barred (fun vs H Q E h => ?_) (fun f cdv A outer s H vs Q E hr h => ⟨_, d_others_barred T.B (cal_step_gains T) (cal_greatest_sums T) hr, ?_⟩)
  · obtain ⟨n, a, b, g, t, x, rfl, _⟩ := h; rfl
  obtain ⟨n, a, b, g, t, d, rfl, hT, hd, q⟩ := h
  have hn := hT.le
  unfold t_others_barred
  refine q_asgA (al_sg hT (va_var rfl) (va_var rfl)) fun v H1 S1 ⟨G, ev, hG⟩ => ?_
  subst ev
  refine q_asg (v := .int (n : Int)) (va_cb (vs_cons (va_var rfl) vs_nil) (vc_lenTT (S1.tt hT.tab))) ?_
  refine q_asgA (P := IsLL K n n (oI (cut (gn g t) d))) (Al.imp (al_lcN (fun x => .lst (tab n fun y => oV (cut (gn g t) d x y))) (src_R (n := n) (vs_cons (va_var rfl) vs_nil) (by omega)) (fun _ => rfl) (by omega) fun x H2 hx S2 => ?_) fun v H2 S2 p => news_ll p) fun v H2 S2 ⟨U, ev, hU⟩ => ?_
  · refine al_lcV (fun y => oV (cut (gn g t) d x y)) (src_R (n := n) (vs_cons (va_var rfl) vs_nil) (by omega)) (fun _ => rfl) (by omega) fun y H3 hy S3 => ?_
    refine al_if (at_in2 (d := (d : Int)) (x := (x : Int)) (y := (y : Int)) (va_var rfl) (fun _ _ => va_var rfl) (fun _ _ => va_var rfl)) (fun hb H4 S4 => (al_va va_c).imp fun v H5 _ e => ?_) (fun hb H4 S4 => (al_va (va_LL (((S2.trans S3).trans S4).ll hG) (va_var rfl) (va_var rfl) (va_var rfl) hx hy)).imp fun v H5 _ e => ?_)
    · rw [e]
      have : d = x ∨ d = y := by
        rcases Bool.or_eq_true _ _ ▸ hb with h | h
        · exact .inl (by have := of_decide_eq_true h; omega)
        · exact .inr (by have := of_decide_eq_true h; omega)
      unfold cut
      rw [if_pos this]; rfl
    · rw [e]
      obtain ⟨h1, h2⟩ := Bool.or_eq_false_iff.mp hb
      have h3 := of_decide_eq_false h1
      have h4 := of_decide_eq_false h2
      unfold cut
      rw [if_neg (by omega)]
  · subst ev
    refine st_retA (al_notN (al_ringAt (al_gsV hT.one hT.le (cut_self (gn_self g t) d) (va_var rfl) hU)) fun v H3 S3 p => ⟨_, rfl, ?_⟩) fun v H3 S3 p => q v H3 ((S1.trans S2).trans S3) p
    have := p.dec
    constructor
    · intro hb hk
      have e := this.mpr hk
      rw [e] at hb; cases hb
    · intro hk
      cases c : decide (v = V.non) with
      | true => exact absurd (this.mp c) hk
      | false => rfl
def LeastW (n : Nat) (g : Gr) (t : Nat → Int) (x : Nat) : V → Hp → Prop := fun v _ => (¬ KeptO n g t x ∧ v = .non) ∨ (KeptO n g t x ∧ v = .int (needF n g t x))
def spLeastWait (K : PySem.W.Frag) : Sp := fun vs H Q _ => ∃ (n : Nat) (a b : Addr) (g : Gr) (t : Nat → Int) (x : Nat), vs = [.ref a, .ref b, .int (x : Int)] ∧ TW K H n a b g t ∧ NN n t ∧ x < n ∧ Ret (LeastW n g t x) H Q
theorem cal_least_wait (T : Txt K mg) : Cal P w K mg base 5 "least_wait" ["table", "waits", "door"] (spLeastWait K) := by
  refine T.least_wait.cal sc_least_wait (fun vs H Q E h => ?_) (fun f cdv A outer s H vs Q E hr h => ⟨_, d_least_wait T.B (cal_need_table_waits T) (cal_need_table_door T) (cal_others_barred T) (cal_needed_wait T) hr, ?_⟩)
  · obtain ⟨n, a, b, g, t, x, rfl, _⟩ := h; rfl
  obtain ⟨n, a, b, g, t, x, rfl, hT, h0, hx, q⟩ := h
  unfold t_least_wait
  refine q_dropA (al_ntw hT h0 (va_var rfl) (va_var rfl)) fun v H1 S1 _ => ?_
  have hT1 := hT.mono S1
  refine q_drop (v := .non) (va_call (z := .non) (vs_cons (va_cb (vs_cons (va_var rfl) vs_nil) (vc_lenTT hT1.tab)) (vs_cons (va_var rfl) vs_nil)) fun Q E q => ⟨(n : Int), (x : Int), rfl, by omega, by omega, q⟩) ?_
  refine q_ifQn (p := fun b _ => b = true ↔ ¬ KeptO n g t x) (aq_B (al_call (P := IsB (¬ KeptO n g t x)) (vs_cons (va_var rfl) (vs_cons (va_var rfl) (vs_cons (va_var rfl) vs_nil))) fun Q E r => ⟨n, a, b, g, t, x, rfl, hT1, hx, r⟩) fun v H2 S2 p => p) (fun H2 S2 p => ?_) (fun H2 S2 p => ?_)
  · exact st_ret va_c (q _ _ (S1.trans S2) (.inl ⟨p.mp rfl, rfl⟩))
  · have hk : KeptO n g t x := Classical.byContradiction fun z => Bool.noConfusion (p.mpr z)
    exact st_retA (al_call (P := fun v _ => v = .int (needF n g t x)) (vs_cons (va_var rfl) (vs_cons (va_var rfl) (vs_cons (va_var rfl) vs_nil))) fun Q E r => ⟨n, a, b, g, t, x, rfl, hT1.mono S2, hk, hx, r⟩) fun v H3 S3 e => q v H3 ((S1.trans S2).trans S3) (.inr ⟨hk, e⟩)
/-- kept, and each wait the least one -/
def Bare (n : Nat) (g : Gr) (t : Nat → Int) : Prop := Kept n g t ∧ ∀ x, x < n → t x = needF n g t x
def spIsBare (K : PySem.W.Frag) : Sp := fun vs H Q _ => ∃ (n : Nat) (a b : Addr) (g : Gr) (t : Nat → Int), vs = [.ref a, .ref b] ∧ TW K H n a b g t ∧ NN n t ∧ Ret (IsB (Bare n g t)) H Q
theorem cal_is_bare (T : Txt K mg) : Cal P w K mg base 4 "is_bare" ["table", "waits"] (spIsBare K) := by
  refine T.is_bare.cal sc_is_bare (fun vs H Q E h => ?_) (fun f cdv A outer s H vs Q E hr h => ⟨_, d_is_bare T.B (cal_need_table_waits T) (cal_greatest_sums T) (cal_step_gains T) (cal_needed_wait T) hr, ?_⟩)
  · obtain ⟨n, a, b, g, t, rfl, _⟩ := h; rfl
  obtain ⟨n, a, b, g, t, rfl, hT, h0, q⟩ := h
  have hn := hT.le
  unfold t_is_bare
  refine q_dropA (al_ntw hT h0 (va_var rfl) (va_var rfl)) fun v H1 S1 _ => ?_
  have hT1 := hT.mono S1
  refine q_ifQn (p := fun b _ => b = true ↔ ¬ Kept n g t) (aq_test (al_notN (P2 := IsB (¬ Kept n g t)) (al_ringAt (al_gsOf hT.one hT.le (gn_self g t) (al_sg hT1 (va_var rfl) (va_var rfl)))) fun v H2 S2 p => ⟨_, rfl, ?_⟩) fun v H2 S2 p => p) (fun H2 S2 p => ?_) (fun H2 S2 p => ?_)
  · have := p.dec
    constructor
    · intro hb hk
      have e := this.mpr hk
      rw [e] at hb; cases hb
    · intro hk
      cases c : decide (v = V.non) with
      | true => exact absurd (this.mp c) hk
      | false => rfl
  · exact st_ret va_c (q _ _ (S1.trans S2) ⟨false, rfl, fun z => Bool.noConfusion z, fun z => absurd z.1 (p.mp rfl)⟩)
  · have hk : Kept n g t := Classical.byContradiction fun z => Bool.noConfusion (p.mpr z)
    have hT2 := hT1.mono S2
    refine st_retA (al_all (al_lcV (fun x => .bl (decide (t x = needF n g t x))) (src_ET (n := n) (f := fun x => .int (t x)) (va_var rfl) hT2.wai) (fun _ => rfl) (by omega) fun x H3 hx S3 => ?_)) fun v H3 S3 e => q v H3 ((S1.trans S2).trans S3) ⟨_, e, ?_⟩
    · refine al_opR (va_var rfl) (al_call (P := fun v _ => v = .int (needF n g t x)) (vs_cons (va_var rfl) (vs_cons (va_var rfl) (vs_cons (va_var rfl) vs_nil))) fun Q E r => ⟨n, a, b, g, t, x, rfl, hT2.mono S3, kept_cut hk x, hx, r⟩) fun v H4 S4 e => ?_
      subst e
      exact ⟨_, vr_eqI, rfl⟩
    · rw [List.all_eq_true]
      constructor
      · intro h
        exact ⟨hk, fun x hx => of_decide_eq_true (h x (List.mem_range.mpr hx))⟩
      · intro h x hx
        exact decide_eq_true (h.2 x (List.mem_range.mp hx))
end
end K45
set_option linter.all false
namespace K45
/-! ### the net: rows are the nodes below n, columns the nodes n + j -/
abbrev Fl := Nat → Nat → Int
def nw (n : Nat) (e : Gr) (f : Fl) : Gr := fun u v => if u < n then (if n ≤ v then e u (v - n) else none) else (if v < n ∧ 0 < f v (u - n) then (e v (u - n)).map (fun w => -w) else none)
theorem nw_f {n : Nat} {e : Gr} {f : Fl} {i j : Nat} (hi : i < n) : nw n e f i (n + j) = e i j := by
  unfold nw; rw [if_pos hi, if_pos (by omega)]; congr 1; omega
theorem nw_b {n : Nat} {e : Gr} {f : Fl} {i j : Nat} (hi : i < n) : nw n e f (n + j) i = if 0 < f i j then (e i j).map (fun w => -w) else none := by
  unfold nw
  rw [if_neg (by omega)]
  have : n + j - n = j := by omega
  rw [this]
  by_cases c : 0 < f i j
  · rw [if_pos ⟨hi, c⟩, if_pos c]
  · rw [if_neg (fun z => c z.2), if_neg c]
/-- flows of greatest worth for what they send -/
structure Opt (n : Nat) (e : Gr) (f : Fl) (U V : Nat → Int) : Prop where
  nn : ∀ i j, i < n → j < n → 0 ≤ f i j
  up : ∀ i j w, i < n → j < n → e i j = some w → U i + w ≤ V j
  eq : ∀ i j, i < n → j < n → 0 < f i j → ∃ w, e i j = some w ∧ V j = U i + w
def npi (n : Nat) (U V : Nat → Int) (B : Int) : Nat → Int := fun v => if v < n then U v + B else V (v - n) + B
theorem Opt.pi {n : Nat} {e : Gr} {f : Fl} {U V : Nat → Int} (h : Opt n e f U V) (B : Int) : ∀ u v g, u < 2 * n → v < 2 * n → nw n e f u v = some g → npi n U V B u + g ≤ npi n U V B v := by
  intro u v g hu hv hg
  unfold npi
  by_cases c : u < n
  · rw [if_pos c]
    unfold nw at hg
    rw [if_pos c] at hg
    by_cases d : n ≤ v
    · rw [if_pos d] at hg
      rw [if_neg (by omega)]
      have := h.up u (v - n) g c (by omega) hg
      omega
    · rw [if_neg d] at hg; cases hg
  · rw [if_neg c]
    unfold nw at hg
    rw [if_neg c] at hg
    by_cases d : v < n ∧ 0 < f v (u - n)
    · rw [if_pos d] at hg
      rw [if_pos d.1]
      obtain ⟨w, e1, e2⟩ := h.eq v (u - n) d.1 (by omega) d.2
      rw [e1] at hg
      have : -w = g := Option.some.inj hg
      omega
    · rw [if_neg d] at hg; cases hg
theorem nw_ne {n : Nat} {e : Gr} {f : Fl} {u v : Nat} {g : Int} (h : nw n e f u v = some g) : u ≠ v := by
  intro z
  subst z
  unfold nw at h
  by_cases c : u < n
  · rw [if_pos c, if_neg (by omega)] at h; cases h
  · rw [if_neg c, if_neg (fun z => c z.1)] at h; cases h
/-! ### the passes -/
def frow (W : Gr) (n i : Nat) : Nat → RS → RS
  | 0, s => s
  | k + 1, s => rel W i (n + k) (frow W n i k s)
def fpass (W : Gr) (n : Nat) : Nat → RS → RS
  | 0, s => s
  | k + 1, s => frow W n k n (fpass W n k s)
def bcol (W : Gr) (n j : Nat) : Nat → RS → RS
  | 0, s => s
  | k + 1, s => rel W (n + j) k (bcol W n j k s)
def bpassN (W : Gr) (n : Nat) : Nat → RS → RS
  | 0, s => s
  | k + 1, s => bcol W n k n (bpassN W n k s)
def nfin (a b : RS) : RS := { b with C := b.C || a.C }
def nturn (W : Gr) (n : Nat) (s : RS) : RS :=
  nfin (fpass W n n { s with C := false }) (bpassN W n n { fpass W n n { s with C := false } with C := false })
theorem rel_other {W : Gr} {u v x : Nat} {s : RS} (h : x ≠ v) : (rel W u v s).S x = s.S x ∧ (rel W u v s).F x = s.F x := by
  rcases rel_cases W u v s with ⟨e, _⟩ | ⟨g, c, _, _, _, e⟩
  · rw [e]; exact ⟨rfl, rfl⟩
  · rw [e]; exact ⟨up_ne h, up_ne h⟩
theorem frow_row {W : Gr} {n i x : Nat} (hx : x < n) : ∀ {k : Nat} {s : RS}, (frow W n i k s).S x = s.S x ∧ (frow W n i k s).F x = s.F x
  | 0, s => ⟨rfl, rfl⟩
  | k + 1, s => by
    have h := rel_other (W := W) (u := i) (s := frow W n i k s) (show x ≠ n + k by omega)
    have q := frow_row (W := W) (i := i) hx (k := k) (s := s)
    exact ⟨h.1.trans q.1, h.2.trans q.2⟩
theorem bcol_col {W : Gr} {n j y : Nat} : ∀ {k : Nat} {s : RS}, k ≤ n → (bcol W n j k s).S (n + y) = s.S (n + y) ∧ (bcol W n j k s).F (n + y) = s.F (n + y)
  | 0, s, _ => ⟨rfl, rfl⟩
  | k + 1, s, hk => by
    have h := rel_other (W := W) (u := n + j) (s := bcol W n j k s) (show n + y ≠ k by omega)
    have q := bcol_col (W := W) (n := n) (j := j) (y := y) (k := k) (s := s) (by omega)
    exact ⟨h.1.trans q.1, h.2.trans q.2⟩
theorem frow_none {W : Gr} {n i : Nat} {s : RS} (h : s.S i = none) (hi : i < n) : ∀ k, frow W n i k s = s
  | 0 => rfl
  | k + 1 => by
    show rel W i (n + k) (frow W n i k s) = s
    rw [frow_none h hi k]
    unfold rel
    rw [h]
    cases W i (n + k) <;> rfl
theorem bcol_none {W : Gr} {n j : Nat} {s : RS} (h : s.S (n + j) = none) : ∀ k, bcol W n j k s = s
  | 0 => rfl
  | k + 1 => by
    show rel W (n + j) k (bcol W n j k s) = s
    rw [bcol_none h k]
    unfold rel
    rw [h]
    cases W (n + j) k <;> rfl
section
variable {n : Nat} {W : Gr} {S0 : Nat → Option Int} {π : Nat → Int}
def PiOk (n : Nat) (W : Gr) (π : Nat → Int) : Prop := ∀ u v g, u < 2 * n → v < 2 * n → W u v = some g → π u + g ≤ π v
theorem frow_ok (hπ : PiOk n W π) {i : Nat} (hi : i < n) {s0 s : RS} {D : Nat → Nat → Prop} (h : GJ (2 * n) W S0 π s) (r : RI (2 * n) W π s0 s D) :
    ∀ k, k ≤ n → GJ (2 * n) W S0 π (frow W n i k s) ∧ RI (2 * n) W π s0 (frow W n i k s) (fun a b => D a b ∨ (a = i ∧ ∃ j, j < k ∧ b = n + j))
  | 0, _ => ⟨h, r.mono fun a b q => q.elim id fun ⟨_, j, hj, _⟩ => absurd hj (Nat.not_lt_zero _)⟩
  | k + 1, hk => by
    obtain ⟨a, b⟩ := frow_ok hπ hi h r k (by omega)
    refine ⟨rel_ok (by omega) (by omega) (by omega) (fun g hg => hπ _ _ g (by omega) (by omega) hg) a, (rel_ri (u := i) (by omega) b).mono fun u v q => ?_⟩
    rcases q with q | ⟨q1, j, q2, q3⟩
    · exact .inl (.inl q)
    · by_cases e : j = k
      · subst e; exact .inr ⟨q1, q3⟩
      · exact .inl (.inr ⟨q1, j, by omega, q3⟩)
theorem fpass_ok (hπ : PiOk n W π) {s0 s : RS} (h : GJ (2 * n) W S0 π s) (r : RI (2 * n) W π s0 s (fun _ _ => False)) :
    ∀ k, k ≤ n → GJ (2 * n) W S0 π (fpass W n k s) ∧ RI (2 * n) W π s0 (fpass W n k s) (fun a b => a < k ∧ ∃ j, j < n ∧ b = n + j)
  | 0, _ => ⟨h, r.mono fun a b q => absurd q.1 (Nat.not_lt_zero _)⟩
  | k + 1, hk => by
    obtain ⟨a, b⟩ := fpass_ok hπ h r k (by omega)
    obtain ⟨c, d⟩ := frow_ok hπ (show k < n by omega) a b n (Nat.le_refl n)
    refine ⟨c, d.mono fun u v ⟨q1, q2⟩ => ?_⟩
    by_cases e : u = k
    · exact .inr ⟨e, q2⟩
    · exact .inl ⟨by omega, q2⟩
theorem bcol_ok (hπ : PiOk n W π) {j : Nat} (hj : j < n) {s0 s : RS} {D : Nat → Nat → Prop} (h : GJ (2 * n) W S0 π s) (r : RI (2 * n) W π s0 s D) :
    ∀ k, k ≤ n → GJ (2 * n) W S0 π (bcol W n j k s) ∧ RI (2 * n) W π s0 (bcol W n j k s) (fun a b => D a b ∨ (a = n + j ∧ b < k))
  | 0, _ => ⟨h, r.mono fun a b q => q.elim id fun ⟨_, z⟩ => absurd z (Nat.not_lt_zero _)⟩
  | k + 1, hk => by
    obtain ⟨a, b⟩ := bcol_ok hπ hj h r k (by omega)
    refine ⟨rel_ok (by omega) (by omega) (by omega) (fun g hg => hπ _ _ g (by omega) (by omega) hg) a, (rel_ri (u := n + j) (by omega) b).mono fun u v q => ?_⟩
    rcases q with q | ⟨q1, q2⟩
    · exact .inl (.inl q)
    · by_cases e : v = k
      · exact .inr ⟨q1, e⟩
      · exact .inl (.inr ⟨q1, by omega⟩)
theorem bpassN_ok (hπ : PiOk n W π) {s0 s : RS} (h : GJ (2 * n) W S0 π s) (r : RI (2 * n) W π s0 s (fun _ _ => False)) :
    ∀ k, k ≤ n → GJ (2 * n) W S0 π (bpassN W n k s) ∧ RI (2 * n) W π s0 (bpassN W n k s) (fun a b => (∃ j, j < k ∧ a = n + j) ∧ b < n)
  | 0, _ => ⟨h, r.mono fun a b ⟨⟨j, hj, _⟩, _⟩ => absurd hj (Nat.not_lt_zero _)⟩
  | k + 1, hk => by
    obtain ⟨a, b⟩ := bpassN_ok hπ h r k (by omega)
    obtain ⟨c, d⟩ := bcol_ok hπ (show k < n by omega) a b n (Nat.le_refl n)
    refine ⟨c, d.mono fun u v ⟨⟨j, q1, q2⟩, q3⟩ => ?_⟩
    by_cases e : j = k
    · subst e; exact .inr ⟨q2, q3⟩
    · exact .inl ⟨⟨j, by omega, q2⟩, q3⟩
theorem GJ.setC {s : RS} (h : GJ (2 * n) W S0 π s) (c : Bool) : GJ (2 * n) W S0 π { s with C := c } := by
  obtain ⟨τ, T, i⟩ := h
  exact ⟨τ, T, i.bd, i.mono, i.att, i.ta⟩
theorem less_congr {m : Nat} {a b a' b' : RS} (h : Less m π a b) (ea : a.S = a'.S) (eb : b.S = b'.S) : Less m π a' b' := by
  unfold Less cnt slk at *
  rw [← ea, ← eb]
  exact h
theorem nturn_ok (hπ : PiOk n W π) {s : RS} (h : GJ (2 * n) W S0 π s) :
    GJ (2 * n) W S0 π (nturn W n s) ∧ RI (2 * n) W π s (nturn W n s) (fun a b => (a < n ∧ ∃ j, j < n ∧ b = n + j) ∨ ((∃ j, j < n ∧ a = n + j) ∧ b < n)) := by
  obtain ⟨a1, a2⟩ := fpass_ok hπ (h.setC false) ri_start n (Nat.le_refl n)
  unfold nturn
  generalize fpass W n n { s with C := false } = a at *
  obtain ⟨b1, b2⟩ := bpassN_ok hπ (a1.setC false) (ri_start (s0 := a)) n (Nat.le_refl n)
  generalize bpassN W n n { a with C := false } = b at *
  unfold nfin
  refine ⟨b1.setC _, ?_⟩
  rcases a2 with ⟨c1, c2, c3, c4⟩ | ⟨c1, c2⟩
  · rcases b2 with ⟨d1, d2, d3, d4⟩ | ⟨d1, d2⟩
    · refine .inl ⟨by show (b.C || a.C) = false; rw [c1, d1]; rfl, d2.trans c2, d3.trans c3, fun u v q => ?_⟩
      intro g c hg hc
      rcases q with q | q
      · obtain ⟨d, e1, e2⟩ := c4 u v q g c hg (by rw [← d2]; exact hc)
        exact ⟨d, by show b.S v = _; rw [d2]; exact e1, e2⟩
      · exact d4 u v q g c hg hc
    · exact .inr ⟨by show (b.C || a.C) = true; rw [d1]; rfl, less_congr d2 rfl c2⟩
  · refine .inr ⟨by show (b.C || a.C) = true; rw [c1]; simp, ?_⟩
    rcases b2 with ⟨d1, d2, d3, d4⟩ | ⟨d1, d2⟩
    · exact less_congr c2 d2.symm rfl
    · exact less_congr (d2.trans c2) rfl rfl
theorem nseq_ok (hπ : PiOk n W π) {s : RS} (h : GJ (2 * n) W S0 π s) : ∀ k, GJ (2 * n) W S0 π (itr (nturn W n) k s)
  | 0 => h
  | k + 1 => (nturn_ok hπ (nseq_ok hπ h k)).1
theorem nseq_ends (hπ : PiOk n W π) {s : RS} (h : GJ (2 * n) W S0 π s) : ∃ N, (itr (nturn W n) (N + 1) s).C = false :=
  ends (m := 2 * n) (π := π) (GJ (2 * n) W S0 π) (nturn W n) (fun s h => (nturn_ok hπ h).1) (fun s h => (nturn_ok hπ h).2.elim (fun z => .inl z.1) fun z => .inr z.2) (fun s h => slk_nn h) _ _ s h rfl rfl
end
/-- what the walks have come to -/
structure NW (n : Nat) (e : Gr) (f : Fl) (S0 : Nat → Option Int) (π : Nat → Int) (S : Nat → Option Int) (F : Nat → Option Nat) (τ : Nat → Nat) : Prop where
  bd : ∀ v c, v < 2 * n → S v = some c → c ≤ π v
  mono : ∀ v c0, S0 v = some c0 → ∃ c, S v = some c ∧ c0 ≤ c
  fwd : ∀ i j w c, i < n → j < n → e i j = some w → S i = some c → ∃ d, S (n + j) = some d ∧ c + w ≤ d
  bwd : ∀ i j w d, i < n → j < n → 0 < f i j → e i j = some w → S (n + j) = some d → ∃ c, S i = some c ∧ d - w ≤ c
  att : ∀ v c, v < 2 * n → S v = some c → (S0 v = some c ∧ F v = none) ∨ ∃ u g d, F v = some u ∧ u < 2 * n ∧ nw n e f u v = some g ∧ S u = some d ∧ c = d + g ∧ τ u < τ v
theorem nseq_nw {n : Nat} {e : Gr} {f : Fl} {S0 : Nat → Option Int} {π : Nat → Int} (hπ : PiOk n (nw n e f) π) {s : RS} (h : GJ (2 * n) (nw n e f) S0 π s) (hC : s.C = true) {k : Nat} (hk : (itr (nturn (nw n e f) n) k s).C = false) :
    ∃ τ, NW n e f S0 π (itr (nturn (nw n e f) n) k s).S (itr (nturn (nw n e f) n) k s).F τ := by
  cases k with
  | zero => have : s.C = false := hk; rw [hC] at this; cases this
  | succ k =>
    obtain ⟨a, b⟩ := nturn_ok hπ (nseq_ok hπ h k)
    have eq : itr (nturn (nw n e f) n) (k + 1) s = nturn (nw n e f) n (itr (nturn (nw n e f) n) k s) := rfl
    rw [eq] at hk ⊢
    generalize nturn (nw n e f) n (itr (nturn (nw n e f) n) k s) = s at *
    rcases b with ⟨_, _, _, b⟩ | ⟨b, _⟩
    · obtain ⟨τ, T, i⟩ := a
      refine ⟨τ, i.bd, i.mono, fun x y w c hx hy he hc => ?_, fun x y w d hx hy hf he hd => ?_, fun v c hv hc => ?_⟩
      · exact b x (n + y) (.inl ⟨hx, y, hy, rfl⟩) w c (by rw [nw_f hx]; exact he) hc
      · obtain ⟨c, h1, h2⟩ := b (n + y) x (.inr ⟨⟨y, hy, rfl⟩, hx⟩) (-w) d (by rw [nw_b hx, if_pos hf, he]; rfl) hd
        exact ⟨c, h1, by omega⟩
      · rcases i.att v c hv hc with q | ⟨u, g, d, h1, h2, h3, h4, h5⟩
        · exact .inl q
        · right
          have hs : ∃ d', s.S v = some d' ∧ d + g ≤ d' := by
            by_cases cu : u < n
            · have h3' := h3
              unfold nw at h3'
              rw [if_pos cu] at h3'
              by_cases cv : n ≤ v
              · exact b u v (.inl ⟨cu, v - n, by omega, by omega⟩) g d h3 h4
              · rw [if_neg cv] at h3'; cases h3'
            · have h3' := h3
              unfold nw at h3'
              rw [if_neg cu] at h3'
              by_cases cv : v < n ∧ 0 < f v (u - n)
              · exact b u v (.inr ⟨⟨u - n, by omega, by omega⟩, cv.1⟩) g d h3 h4
              · rw [if_neg cv] at h3'; cases h3'
          obtain ⟨d', e1, e2⟩ := hs
          rw [hc] at e1
          cases e1
          refine ⟨u, g, d, h1, h2, h3, h4, ?_, ?_⟩
          · rcases h5 with h5 | ⟨h5, _⟩ <;> omega
          · rcases h5 with h5 | ⟨_, h5⟩
            · omega
            · exact h5
    · rw [hk] at b; cases b
end K45
set_option Elab.async false
set_option linter.all false
set_option maxRecDepth 100000
set_option maxHeartbeats 200000
namespace K45
open PySem PySem.Spec PyProof.Rows L2
abbrev s_net_forward : Stmt := topS 30
theorem sc_net_forward : FnScope ["entries", "rows", "columns", "came", "raised", "one", "line", "two", "entry"] ["entries", "rows", "columns", "came"] (defScope s_net_forward) := ⟨rfl, rfl, rfl, by decide +kernel, rfl, by decide +kernel, by decide +kernel⟩
def t_net_forward (K : PySem.W.Frag) : TS := (tSeq (tAsg (tC (.bl false)) (gName 4))
    (tSeq (tFor (iEnumT K (tCons (tVar 0) tNil)) (gTup K 2 (gCons (gName 5) (gCons (gName 6) gNil))) (tIfS (tTest (tOp kNotN (tOp (rIx K) (tVar 1) (tVar 5)) (tC .non))) (tFor (iEnumT K (tCons (tVar 6) tNil)) (gTup K 2 (gCons (gName 7) (gCons (gName 8) gNil))) (tIfS (tAnd (tTest (tOp kNotN (tVar 8) (tC .non))) (tOr (tTest (tOp kIsN (tOp (rIx K) (tVar 2) (tVar 7)) (tC .non))) (tTest (tOp rGt (tOp rAdd (tOp (rIx K) (tVar 1) (tVar 5)) (tVar 8)) (tOp (rIx K) (tVar 2) (tVar 7)))))) (tSeq (tAsg (tOp rAdd (tOp (rIx K) (tVar 1) (tVar 5)) (tVar 8)) (gSub (tVar 2) (tVar 7) rSetL))
    (tSeq (tAsg (tVar 5) (gSub (tVar 3) (tVar 7) rSetL))
    (tAsg (tC (.bl true)) (gName 4)))) tNext)) tNext))
    (tRet (tVar 4))))
theorem d_net_forward {P : Program} {w : World} {K : PySem.W.Frag} {mg : Str → Option Value} {base : Heap} (B : Bif mg)  {f : Addr} {cdv : Value} {A : Around} {outer : List Env} {s : Shared} {H : Hp} {E : XK} (hr : Room 0 (A.deeper (envOfC "net_forward" (defScope s_net_forward) s.heap.objs.size f cdv))) :
    PSs (cxOf CX0 P w K mg base ["entries", "rows", "columns", "came", "raised", "one", "line", "two", "entry"] "net_forward" (defScope s_net_forward) f cdv A outer s H E).nox (defBody s_net_forward) (t_net_forward K ) := by
  have nd := sc_net_forward.nd
  exact (pss_cons (ps_set (i := 4) nd rfl (Or.inl rfl) pe_bl)
      (pss_cons (ps_for PassesOwn.never rfl (pi_enumT (by rfl) B.enumerate_ (pa_cons (pv 0) pa_nil)) (pg_tup rfl (pgs_cons (pg_name (i := 5) nd rfl (Or.inl rfl)) (pgs_cons (pg_name (i := 6) nd rfl (Or.inl rfl)) pgs_nil))) (pss_one (ps_if (pt_cmpR k_notN (pe_ix ix_seq (pv 1) (pv 5) (fun _ _ => rfl)) pe_non (nomark _)) (pss_one (ps_for PassesOwn.never rfl (pi_enumT (by rfl) B.enumerate_ (pa_cons (pv 6) pa_nil)) (pg_tup rfl (pgs_cons (pg_name (i := 7) nd rfl (Or.inl rfl)) (pgs_cons (pg_name (i := 8) nd rfl (Or.inl rfl)) pgs_nil))) (pss_one (ps_if (PW.pt (pw_and (pt_cmpR k_notN (pv 8) pe_non (nomark _)) (pw_and1 (PW.pt (pw_or (pt_cmpR k_isN (pe_ix ix_seq (pv 2) (pv 7) (fun _ _ => rfl)) pe_non (nomark _)) (pw_or1 (pt_cmpR k_gt (pe_op k_add (pe_ix ix_seq (pv 1) (pv 5) (fun _ _ => rfl)) (pv 8)) (pe_ix ix_seq (pv 2) (pv 7) (fun _ _ => rfl)) (nomark _)))))))) (pss_cons (ps_asg (pe_op k_add (pe_ix ix_seq (pv 1) (pv 5) (fun _ _ => rfl)) (pv 8)) (pg_sub (pv 2) (pv 7) set_list))
      (pss_cons (ps_asg (pv 5) (pg_sub (pv 3) (pv 7) set_list))
      (pss_one (ps_set (i := 4) nd rfl (Or.inl rfl) pe_bl)))) pss_nil)))) pss_nil)))
      (pss_one (ps_ret (pv 4)))))

/-! ### all stands, apart from some lists -/
def SX (X : List Addr) (H H' : Hp) : Prop := ∀ b u, H b = some u → (b ∈ X ∧ ∃ l, u = .lst l) ∨ H' b = some u
section
variable {K : PySem.W.Frag} {X : List Addr} {H H1 H2 H' : Hp}
theorem SX.of (S : Same H H') : SX X H H' := fun b u e => .inr (S b u e)
theorem SX.trans (h : SX X H H1) (k : SX X H1 H2) : SX X H H2 := fun b u e => (h b u e).elim .inl fun z => k b u z
theorem SX.same (h : SX X H H1) (k : Same H1 H2) : SX X H H2 := h.trans (.of k)
theorem SX.put (h : SX X H H1) {b : Addr} {o : HO} {l : List V} (hb : b ∈ X) (hl : H1 b = some (.lst l)) : SX X H (upd H1 b o) := fun c u e => (h c u e).elim .inl fun z => by
  by_cases q : c = b
  · subst q
    rw [hl] at z
    cases z
    exact .inl ⟨hb, l, rfl⟩
  · exact .inr (by rw [upd_ne q]; exact z)
theorem SX.new (h : SX X H H1) {b : Addr} {o : HO} (hb : H b = none) : SX X H (upd H1 b o) := fun c u e => (h c u e).elim .inl fun z => .inr (by rw [upd_ne (ne_of_none e hb)]; exact z)
theorem SX.sub {Y : List Addr} (h : SX X H H1) (k : ∀ b l, b ∈ X → H b = some (.lst l) → b ∈ Y) : SX Y H H1 := fun c u e => (h c u e).imp (fun ⟨z, l, hl⟩ => ⟨k c l z (by rw [e, hl]), l, hl⟩) id
/-- what is new to an older heap may be forgotten -/
theorem SX.after {H0 : Hp} (S : Same H0 H) (h : SX X H H1) (hX : ∀ b, b ∈ X → H0 b = none) : Same H0 H1 := fun b u e => (h b u (S b u e)).elim (fun z => by have := hX b z.1; rw [e] at this; cases this) id
theorem SX.t {a : Addr} {xs : List V} (h : SX X H H') (k : SqT K H a xs) : SqT K H' a xs := by
  rcases k with k | k
  · rcases k with k | ⟨o, k⟩
    · rcases h _ _ k with ⟨_, l, z⟩ | z
      · cases z
      · exact .inl (.inl z)
    · rcases h _ _ k with ⟨_, l, z⟩ | z
      · cases z
      · exact .inl (.inr ⟨o, z⟩)
  · exact .inr k
theorem SX.tt {a : Addr} {n m : Nat} {F : Nat → Nat → V} (h : SX X H H') (k : TR K H a n m F) : TR K H' a n m F := by
  obtain ⟨ad, h1, h2⟩ := k
  exact ⟨ad, h.t h1, fun i hi => h.t (h2 i hi)⟩
theorem SX.at {a : Addr} {o : HO} (h : SX X H H') (ha : a ∉ X) (k : H a = some o) : H' a = some o := (h _ _ k).elim (fun z => absurd z.1 ha) id
theorem SX.mm {a : Addr} {n m : Nat} {ad : Nat → Addr} {F : Nat → Nat → V} (h : SX X H H') (k : MM H a n m ad F) (ha : a ∉ X) (had : ∀ i, i < n → ad i ∉ X) : MM H' a n m ad F :=
  ⟨h.at ha k.1, fun i hi => h.at (had i hi) (k.2.1 i hi), k.2.2⟩
end
section
variable {P : Program} {w : World} {K : PySem.W.Frag} {mg : Str → Option Value} {base : Heap}
abbrev rowF (n : Nat) (F : Nat → Option Nat) : Nat → V := fun i => oN ((F i).map fun v => v - n)
abbrev colF (n : Nat) (F : Nat → Option Nat) : Nat → V := fun j => oN (F (n + j))
abbrev rowS (S : Nat → Option Int) : Nat → V := fun i => oV (S i)
abbrev colS (n : Nat) (S : Nat → Option Int) : Nat → V := fun j => oV (S (n + j))
/-- rows and columns, and where they came from -/
structure NSt (n : Nat) (rA cA : Addr) (H : Hp) (s : RS) : Prop where
  r : H rA = some (.lst (tab n (rowS s.S)))
  c : H cA = some (.lst (tab n (colS n s.S)))
structure NFw (n : Nat) (rA cA fA : Addr) (H : Hp) (s : RS) : Prop extends NSt n rA cA H s where
  f : H fA = some (.lst (tab n (colF n s.F)))
structure NBw (n : Nat) (rA cA eA : Addr) (H : Hp) (s : RS) : Prop extends NSt n rA cA H s where
  e : H eA = some (.lst (tab n (rowF n s.F)))
theorem colS_up {n j : Nat} {S : Nat → Option Int} {c : Int} : tab n (up (colS n S) j (.int c)) = tab n (colS n (up S (n + j) (some c))) := tab_congr fun i _ => by
  by_cases e : i = j
  · subst e; rw [up_same]; show _ = oV _; rw [up_same]; rfl
  · rw [up_ne e]; show oV _ = oV _; rw [up_ne (by omega)]
theorem colF_up {n j u : Nat} {F : Nat → Option Nat} : tab n (up (colF n F) j (.int (u : Int))) = tab n (colF n (up F (n + j) (some u))) := tab_congr fun i _ => by
  by_cases e : i = j
  · subst e; rw [up_same]; show _ = oN _; rw [up_same]; rfl
  · rw [up_ne e]; show oN _ = oN _; rw [up_ne (by omega)]
theorem rowS_up {n i : Nat} {S : Nat → Option Int} {c : Int} : tab n (up (rowS S) i (.int c)) = tab n (rowS (up S i (some c))) := tab_congr fun k _ => by
  by_cases e : k = i
  · subst e; rw [up_same]; show _ = oV _; rw [up_same]; rfl
  · rw [up_ne e]; show oV _ = oV _; rw [up_ne e]
theorem rowF_up {n i j : Nat} {F : Nat → Option Nat} : tab n (up (rowF n F) i (.int (j : Int))) = tab n (rowF n (up F i (some (n + j)))) := tab_congr fun k _ => by
  by_cases e : k = i
  · subst e; rw [up_same]; show _ = oN ((up F k (some (n + j)) k).map _); rw [up_same]
    show _ = V.int ((n + j - n : Nat) : Int)
    rw [show n + j - n = j by omega]
  · rw [up_ne e]; show oN ((F k).map _) = oN ((up F i (some (n + j)) k).map _); rw [up_ne e]
theorem rowS_of {n i : Nat} {S S' : Nat → Option Int} {v : Nat} (h : n ≤ v) : tab n (rowS (up S v (S' v))) = tab n (rowS S) := tab_congr fun k hk => by
  show oV _ = oV _; rw [up_ne (by omega)]
def spForward (K : PySem.W.Frag) : Sp := fun vs H Q _ => ∃ (n : Nat) (a rA cA fA : Addr) (e : Gr) (f : Fl) (s : RS), vs = [.ref a, .ref rA, .ref cA, .ref fA] ∧ TR K H a n n (oI e) ∧ n ≤ 1000 ∧ rA ≠ cA ∧ rA ≠ fA ∧ cA ≠ fA ∧ NFw n rA cA fA H s ∧
  ∀ H', SX [rA, cA, fA] H H' → NFw n rA cA fA H' (fpass (nw n e f) n n { s with C := false }) → (∀ q, q ≠ rA → q ≠ cA → q ≠ fA → H q ≠ none → H' q = H q) → Q (.bl (fpass (nw n e f) n n { s with C := false }).C) H'
theorem cal_net_forward (T : Txt K mg) : Cal P w K mg base 1 "net_forward" ["entries", "rows", "columns", "came"] (spForward K) := by
  refine T.net_forward.cal sc_net_forward (fun vs H Q E h => ?_) (fun f cdv A outer s H vs Q E hr h => ⟨_, d_net_forward T.B hr, ?_⟩)
  · obtain ⟨n, a, rA, cA, fA, e, f, s, rfl, _⟩ := h; rfl
  obtain ⟨n, a, rA, cA, fA, e, f, s0, rfl, hT, hn, n1, n2, n3, hs, q⟩ := h
  unfold t_net_forward
  refine q_asg (v := .bl false) va_c ?_
  have hX : ∀ {H1 H2 : Hp} {s : RS}, SX [rA, cA, fA] H H1 → NFw n rA cA fA H1 s → Same H1 H2 → SX [rA, cA, fA] H H2 ∧ NFw n rA cA fA H2 s := fun S h S2 => ⟨S.same S2, ⟨⟨S2 _ _ h.r, S2 _ _ h.c⟩, S2 _ _ h.f⟩⟩
  let ST : RS → (Nat → Option V) → St → Hp → Prop := fun s v σ H' => σ = [some (.ref a), some (.ref rA), some (.ref cA), some (.ref fA), some (.bl s.C), v 0, v 1, v 2, v 3] ∧ SX [rA, cA, fA] H H' ∧ NFw n rA cA fA H' s
  have hT0 := hT
  obtain ⟨ad, ht1, ht2⟩ := hT0
  refine q_forET (n := n) (f := fun i => .ref (ad i)) (va_var rfl) (fun i σ' H' => ∃ v, ST (fpass (nw n e f) n i { s0 with C := false }) v σ' H') ⟨fun _ => none, rfl, .of (Same.refl _), ⟨⟨hs.r, hs.c⟩, hs.f⟩⟩ (fun i σ' H' ⟨v, h⟩ => h.2.1.t ht1) (fun i σ' H' H1 hi ⟨v, es, S, N⟩ S1 => ?_) (fun σ' H' ⟨v, es, S, N⟩ => ?_)
  · subst es
    obtain ⟨S, N⟩ := hX S N S1
    have er : fpass (nw n e f) n (i + 1) { s0 with C := false } = frow (nw n e f) n i n (fpass (nw n e f) n i { s0 with C := false }) := rfl
    rw [er]
    generalize fpass (nw n e f) n i { s0 with C := false } = s1 at N ⊢
    cases c : s1.S i with
    | none =>
      rw [frow_none c hi n]
      exact st_ifF (vt_test (va_op (va_is (va_op (va_var rfl) (va_var rfl) (vr_xHl N.r hi)) (oV_none c)) va_c vr_notNn)) ⟨fun k => if k = 0 then some (.int (i : Int)) else if k = 1 then some (.ref (ad i)) else v k, rfl, S, N⟩
    | some ci =>
      refine st_ifT (vt_test (va_op (va_is (va_op (va_var rfl) (va_var rfl) (vr_xHl N.r hi)) (oV_some c)) va_c vr_notNi)) ?_
      refine st_forET (n := n) (f := fun j => oV (e i j)) (va_var rfl) (fun j σ' H' => ∃ v, v 0 = some (.int (i : Int)) ∧ v 1 = some (.ref (ad i)) ∧ ST (frow (nw n e f) n i j s1) v σ' H') ⟨fun k => if k = 0 then some (.int (i : Int)) else if k = 1 then some (.ref (ad i)) else v k, rfl, rfl, rfl, S, N⟩ (fun j σ' H' ⟨v, _, _, h⟩ => h.2.1.t (ht2 i hi)) (fun j σ' H' H2 hj ⟨v, v0, v1, es, S, N⟩ S1 => ?_) (fun σ' H' ⟨v, _, _, h⟩ => ⟨v, h⟩)
      subst es
      obtain ⟨S, N⟩ := hX S N S1
      have er : frow (nw n e f) n i (j + 1) s1 = rel (nw n e f) i (n + j) (frow (nw n e f) n i j s1) := rfl
      rw [er]
      have c2 : (frow (nw n e f) n i j s1).S i = some ci := by rw [(frow_row hi).1]; exact c
      generalize frow (nw n e f) n i j s1 = s at N c2 ⊢
      have done : ∀ {σ' : L2.St} {H' : Hp}, rel (nw n e f) i (n + j) s = s → σ' = [some (.ref a), some (.ref rA), some (.ref cA), some (.ref fA), some (.bl s.C), v 0, v 1, some (.int (j : Int)), some (oV (e i j))] → SX [rA, cA, fA] H H' → NFw n rA cA fA H' s → ∃ v, v 0 = some (.int (i : Int)) ∧ v 1 = some (.ref (ad i)) ∧ ST (rel (nw n e f) i (n + j) s) v σ' H' := fun er es S N => by
        rw [er]
        exact ⟨fun k => if k = 0 then some (.int (i : Int)) else if k = 1 then some (.ref (ad i)) else if k = 2 then some (.int (j : Int)) else some (oV (e i j)), rfl, rfl, by rw [es, v0, v1]; rfl, S, N⟩
      cases c3 : e i j with
      | none =>
        rw [c3] at done
        exact st_ifF (vt_and0 (vt_test (va_op (va_var (v := .non) rfl) va_c vr_notNn))) (done (by unfold rel; rw [nw_f hi, c3]) rfl S N)
      | some g =>
        rw [c3] at done
        have vE : ∀ {H' : Hp} {σ' : L2.St}, σ'[8]? = some (some (V.int g)) → Va (tVar 8) σ' H' (.int g) := fun h => va_var h
        have h5 : v 0 = some (.int (i : Int)) := v0
        have vsum : ∀ {σ' : L2.St}, σ'[1]? = some (some (V.ref rA)) → σ'[5]? = some (some (V.int (i : Int))) → σ'[8]? = some (some (V.int g)) → Va (tOp rAdd (tOp (rIx K) (tVar 1) (tVar 5)) (tVar 8)) σ' H2 (.int (ci + g)) := fun h1 h5 h8 => va_op (va_is (va_op (va_var h1) (va_var h5) (vr_xHl N.r hi)) (oV_some c2)) (va_var h8) vr_add
        have raise : ∀ {D : Ends} {σ' : L2.St}, (∀ σ'' H'', (∃ v, v 0 = some (.int (i : Int)) ∧ v 1 = some (.ref (ad i)) ∧ ST (rel (nw n e f) i (n + j) s) v σ'' H'') → D.nx σ'' H'') → rel (nw n e f) i (n + j) s = ⟨up s.S (n + j) (some (ci + g)), up s.F (n + j) (some i), true⟩ →
            σ' = [some (.ref a), some (.ref rA), some (.ref cA), some (.ref fA), some (.bl s.C), some (.int (i : Int)), some (.ref (ad i)), some (.int (j : Int)), some (.int g)] →
            tSeq (tAsg (tOp rAdd (tOp (rIx K) (tVar 1) (tVar 5)) (tVar 8)) (gSub (tVar 2) (tVar 7) rSetL)) (tSeq (tAsg (tVar 5) (gSub (tVar 3) (tVar 7) rSetL)) (tAsg (tC (.bl true)) (gName 4))) D σ' H2 := fun {D σ'} hD er es => by
          subst es
          refine q_setL (j := j) (vsum rfl rfl rfl) (va_var rfl) (va_var rfl) N.c hj ?_
          refine q_setL (j := j) (va_var rfl) (va_var rfl) (va_var rfl) (show upd H2 cA _ fA = _ by rw [upd_ne (Ne.symm n3)]; exact N.f) hj ?_
          refine st_asg va_c (hD _ _ ?_)
          rw [er]
          refine ⟨fun k => if k = 0 then some (.int (i : Int)) else if k = 1 then some (.ref (ad i)) else if k = 2 then some (.int (j : Int)) else some (.int g), rfl, rfl, rfl, ?_, ⟨⟨?_, ?_⟩, ?_⟩⟩
          · exact (S.put (by simp) N.c).put (by simp) (show upd H2 cA _ fA = _ by rw [upd_ne (Ne.symm n3)]; exact N.f)
          · rw [upd_ne n2, upd_ne n1, N.r]
            exact congrArg (fun l => some (HO.lst l)) (tab_congr fun k hk => by show oV _ = oV (up s.S (n + j) _ k); rw [up_ne (by omega)])
          · rw [upd_ne n3, upd_same, colS_up]
          · rw [upd_same, colF_up]
        show tIfS _ _ _ _ _ _
        have eσ : ((([some (.ref a), some (.ref rA), some (.ref cA), some (.ref fA), some (.bl s.C), v 0, v 1, v 2, v 3] : L2.St).set 7 (some (.int (j : Int)))).set 8 (some (oV (some g)))) = [some (.ref a), some (.ref rA), some (.ref cA), some (.ref fA), some (.bl s.C), some (.int (i : Int)), some (.ref (ad i)), some (.int (j : Int)), some (.int g)] := by rw [v0, v1]; rfl
        rw [eσ]
        cases c4 : s.S (n + j) with
        | none =>
          refine st_ifT (vt_andT (vt_test (va_op (va_var (v := .int g) rfl) va_c vr_notNi)) (vt_or1 (vt_test (va_op (va_is (va_op (va_var rfl) (va_var rfl) (vr_xHl N.c hj)) (oV_none c4)) va_c vr_isNn)))) ?_
          exact raise (fun _ _ h => h) (by unfold rel; rw [nw_f hi, c3, c2, c4]) rfl
        | some d =>
          refine st_if (b := decide (d < ci + g)) (vt_andT (vt_test (va_op (va_var (v := .int g) rfl) va_c vr_notNi)) (vt_orF (vt_test (va_op (va_is (va_op (va_var rfl) (va_var rfl) (vr_xHl N.c hj)) (oV_some c4)) va_c vr_isNi)) (vt_test (va_op (vsum rfl rfl rfl) (va_is (va_op (va_var rfl) (va_var rfl) (vr_xHl N.c hj)) (oV_some c4)) vr_gt)))) (fun hb => ?_) (fun hb => ?_)
          · exact raise (fun _ _ h => h) (by unfold rel; rw [nw_f hi, c3, c2, c4]; exact if_pos (of_decide_eq_true hb)) rfl
          · exact done (by unfold rel; rw [nw_f hi, c3, c2, c4]; exact if_neg (of_decide_eq_false hb)) (by rw [v0, v1]; rfl) S N
  · subst es
    exact st_ret (va_var rfl) (q H' S N fun p h1 h2 h3 h4 => by
      cases c : H p with
      | none => exact absurd c h4
      | some u => exact S.at (by simp [h1, h2, h3]) c)
end
end K45
set_option Elab.async false
set_option linter.all false
set_option maxRecDepth 100000
set_option maxHeartbeats 200000
namespace K45
open PySem PySem.Spec PyProof.Rows L2
abbrev s_net_backward : Stmt := topS 31
theorem sc_net_backward : FnScope ["entries", "flows", "rows", "columns", "came", "raised", "two", "high", "one", "line"] ["entries", "flows", "rows", "columns", "came"] (defScope s_net_backward) := ⟨rfl, rfl, rfl, by decide +kernel, rfl, by decide +kernel, by decide +kernel⟩
def t_net_backward (K : PySem.W.Frag) : TS := (tSeq (tAsg (tC (.bl false)) (gName 5))
    (tSeq (tFor (iEnum K (tCons (tVar 3) tNil)) (gTup K 2 (gCons (gName 6) (gCons (gName 7) gNil))) (tIfS (tTest (tOp kNotN (tVar 7) (tC .non))) (tFor (iEnum K (tCons (tVar 1) tNil)) (gTup K 2 (gCons (gName 8) (gCons (gName 9) gNil))) (tIfS (tAnd (tTest (tOp rGt (tOp (rIx K) (tVar 9) (tVar 6)) (tC (.int 0)))) (tOr (tTest (tOp kIsN (tOp (rIx K) (tVar 2) (tVar 8)) (tC .non))) (tTest (tOp rGt (tOp rSub (tVar 7) (tOp (rIx K) (tOp (rIx K) (tVar 0) (tVar 8)) (tVar 6))) (tOp (rIx K) (tVar 2) (tVar 8)))))) (tSeq (tAsg (tOp rSub (tVar 7) (tOp (rIx K) (tOp (rIx K) (tVar 0) (tVar 8)) (tVar 6))) (gSub (tVar 2) (tVar 8) rSetL))
    (tSeq (tAsg (tVar 6) (gSub (tVar 4) (tVar 8) rSetL))
    (tAsg (tC (.bl true)) (gName 5)))) tNext)) tNext))
    (tRet (tVar 5))))
theorem d_net_backward {P : Program} {w : World} {K : PySem.W.Frag} {mg : Str → Option Value} {base : Heap} (B : Bif mg)  {f : Addr} {cdv : Value} {A : Around} {outer : List Env} {s : Shared} {H : Hp} {E : XK} (hr : Room 0 (A.deeper (envOfC "net_backward" (defScope s_net_backward) s.heap.objs.size f cdv))) :
    PSs (cxOf CX0 P w K mg base ["entries", "flows", "rows", "columns", "came", "raised", "two", "high", "one", "line"] "net_backward" (defScope s_net_backward) f cdv A outer s H E).nox (defBody s_net_backward) (t_net_backward K ) := by
  have nd := sc_net_backward.nd
  exact (pss_cons (ps_set (i := 5) nd rfl (Or.inl rfl) pe_bl)
      (pss_cons (ps_for PassesOwn.never rfl (pi_enum (by rfl) B.enumerate_ (pa_cons (pv 3) pa_nil)) (pg_tup rfl (pgs_cons (pg_name (i := 6) nd rfl (Or.inl rfl)) (pgs_cons (pg_name (i := 7) nd rfl (Or.inl rfl)) pgs_nil))) (pss_one (ps_if (pt_cmpR k_notN (pv 7) pe_non (nomark _)) (pss_one (ps_for PassesOwn.never rfl (pi_enum (by rfl) B.enumerate_ (pa_cons (pv 1) pa_nil)) (pg_tup rfl (pgs_cons (pg_name (i := 8) nd rfl (Or.inl rfl)) (pgs_cons (pg_name (i := 9) nd rfl (Or.inl rfl)) pgs_nil))) (pss_one (ps_if (PW.pt (pw_and (pt_cmpR k_gt (pe_ix ix_seq (pv 9) (pv 6) (fun _ _ => rfl)) pe_int (nomark _)) (pw_and1 (PW.pt (pw_or (pt_cmpR k_isN (pe_ix ix_seq (pv 2) (pv 8) (fun _ _ => rfl)) pe_non (nomark _)) (pw_or1 (pt_cmpR k_gt (pe_op k_sub (pv 7) (pe_ix ix_seq (pe_ix ix_seq (pv 0) (pv 8) (fun _ _ => rfl)) (pv 6) (fun _ _ => rfl))) (pe_ix ix_seq (pv 2) (pv 8) (fun _ _ => rfl)) (nomark _)))))))) (pss_cons (ps_asg (pe_op k_sub (pv 7) (pe_ix ix_seq (pe_ix ix_seq (pv 0) (pv 8) (fun _ _ => rfl)) (pv 6) (fun _ _ => rfl))) (pg_sub (pv 2) (pv 8) set_list))
      (pss_cons (ps_asg (pv 6) (pg_sub (pv 4) (pv 8) set_list))
      (pss_one (ps_set (i := 5) nd rfl (Or.inl rfl) pe_bl)))) pss_nil)))) pss_nil)))
      (pss_one (ps_ret (pv 5)))))

section
variable {P : Program} {w : World} {K : PySem.W.Frag} {mg : Str → Option Value} {base : Heap}
/-- flows of one's own, apart from some addresses -/
structure FL (n : Nat) (fl : Addr) (ad : Nat → Addr) (f : Fl) (X : List Addr) (H : Hp) : Prop where
  mm : MM H fl n n ad (fun i j => .int (f i j))
  a : fl ∉ X
  r : ∀ i, i < n → ad i ∉ X
theorem FL.sx {n : Nat} {fl : Addr} {ad : Nat → Addr} {f : Fl} {X : List Addr} {H H' : Hp} (h : FL n fl ad f X H) (S : SX X H H') : FL n fl ad f X H' := ⟨S.mm h.mm h.a h.r, h.a, h.r⟩
def spBackward (K : PySem.W.Frag) : Sp := fun vs H Q _ => ∃ (n : Nat) (a fl rA cA eA : Addr) (ad : Nat → Addr) (e : Gr) (f : Fl) (s : RS), vs = [.ref a, .ref fl, .ref rA, .ref cA, .ref eA] ∧ TR K H a n n (oI e) ∧ FL n fl ad f [rA, cA, eA] H ∧ n ≤ 1000 ∧ rA ≠ cA ∧ rA ≠ eA ∧ cA ≠ eA ∧ NBw n rA cA eA H s ∧
  (∀ i j, i < n → j < n → 0 < f i j → ∃ w, e i j = some w) ∧
  ∀ H', SX [rA, cA, eA] H H' → NBw n rA cA eA H' (bpassN (nw n e f) n n { s with C := false }) → (∀ q, q ≠ rA → q ≠ cA → q ≠ eA → H q ≠ none → H' q = H q) → Q (.bl (bpassN (nw n e f) n n { s with C := false }).C) H'
theorem cal_net_backward (T : Txt K mg) : Cal P w K mg base 1 "net_backward" ["entries", "flows", "rows", "columns", "came"] (spBackward K) := by
  refine T.net_backward.cal sc_net_backward (fun vs H Q E h => ?_) (fun fa cdv A outer s H vs Q E hr h => ⟨_, d_net_backward T.B hr, ?_⟩)
  · obtain ⟨n, a, fl, rA, cA, eA, ad, e, f, s, rfl, _⟩ := h; rfl
  obtain ⟨n, a, fl, rA, cA, fA, ad, e, f, s0, rfl, hT, hF, hn, n1, n2, n3, hs, hpos, q⟩ := h
  unfold t_net_backward
  refine q_asg (v := .bl false) va_c ?_
  have hX : ∀ {H1 H2 : Hp} {s : RS}, SX [rA, cA, fA] H H1 → NBw n rA cA fA H1 s → Same H1 H2 → SX [rA, cA, fA] H H2 ∧ NBw n rA cA fA H2 s := fun S h S2 => ⟨S.same S2, ⟨⟨S2 _ _ h.r, S2 _ _ h.c⟩, S2 _ _ h.e⟩⟩
  let ST : RS → (Nat → Option V) → St → Hp → Prop := fun s v σ H' => σ = [some (.ref a), some (.ref fl), some (.ref rA), some (.ref cA), some (.ref fA), some (.bl s.C), v 0, v 1, v 2, v 3] ∧ SX [rA, cA, fA] H H' ∧ NBw n rA cA fA H' s
  have hcol : ∀ {j : Nat}, j ≤ n → ∀ y, (bpassN (nw n e f) n j { s0 with C := false }).S (n + y) = s0.S (n + y) := by
    intro j
    induction j with
    | zero => intro _ y; rfl
    | succ j ih => intro hj y; exact (bcol_col (Nat.le_refl n)).1.trans (ih (by omega) y)
  have tcol : ∀ {j : Nat}, j ≤ n → tab n (colS n (bpassN (nw n e f) n j { s0 with C := false }).S) = tab n (colS n s0.S) := fun hj => tab_congr fun y _ => by
    show oV _ = oV _; rw [hcol hj y]
  refine q_forE (n := n) (f := colS n s0.S) (va_var rfl) (fun j σ' H' => j ≤ n ∧ ∃ v, ST (bpassN (nw n e f) n j { s0 with C := false }) v σ' H') ⟨Nat.zero_le n, fun _ => none, rfl, .of (Same.refl _), ⟨⟨hs.r, hs.c⟩, hs.e⟩⟩ (fun j σ' H' ⟨hj, v, h⟩ => by
    have := h.2.2.c
    rw [tcol hj] at this
    exact SqL.of this) (fun j σ' H' H1 hj ⟨_, v, es, S, N⟩ S1 => ?_) (fun σ' H' ⟨_, v, es, S, N⟩ => ?_)
  · subst es
    obtain ⟨S, N⟩ := hX S N S1
    have er : bpassN (nw n e f) n (j + 1) { s0 with C := false } = bcol (nw n e f) n j n (bpassN (nw n e f) n j { s0 with C := false }) := rfl
    rw [er]
    have hcj : (bpassN (nw n e f) n j { s0 with C := false }).S (n + j) = s0.S (n + j) := hcol (by omega) j
    generalize bpassN (nw n e f) n j { s0 with C := false } = s1 at N hcj ⊢
    show tIfS _ _ _ _ _ _
    cases c : s0.S (n + j) with
    | none =>
      rw [bcol_none (hcj.trans c) n]
      refine st_ifF (vt_test (va_op (va_var (v := .non) (by show some (some (oV (s0.S (n + j)))) = _; rw [c]; rfl)) va_c vr_notNn)) ⟨hj, fun k => if k = 0 then some (.int (j : Int)) else if k = 1 then some (colS n s0.S j) else v k, rfl, S, N⟩
    | some cj =>
      have hsj : colS n s0.S j = .int cj := by show oV _ = _; rw [c]; rfl
      rw [hsj]
      refine st_ifT (vt_test (va_op (va_var (v := .int cj) rfl) va_c vr_notNi)) ?_
      have F1 := hF.sx S
      refine st_forE (n := n) (f := fun i => .ref (ad i)) (va_var rfl) (fun i σ' H' => ∃ v, v 0 = some (.int (j : Int)) ∧ v 1 = some (.int cj) ∧ ST (bcol (nw n e f) n j i s1) v σ' H') ⟨fun k => if k = 0 then some (.int (j : Int)) else if k = 1 then some (.int cj) else v k, rfl, rfl, rfl, S, N⟩ (fun i σ' H' ⟨v, _, _, h⟩ => SqL.of (hF.sx h.2.1).mm.1) (fun i σ' H' H2 hi ⟨v, v0, v1, es, S, N⟩ S1 => ?_) (fun σ' H' ⟨v, _, _, h⟩ => ⟨hj, v, h⟩)
      subst es
      obtain ⟨S, N⟩ := hX S N S1
      have er : bcol (nw n e f) n j (i + 1) s1 = rel (nw n e f) (n + j) i (bcol (nw n e f) n j i s1) := rfl
      rw [er]
      have c2 : (bcol (nw n e f) n j i s1).S (n + j) = some cj := by rw [(bcol_col (Nat.le_of_lt hi)).1]; exact hcj.trans c
      generalize bcol (nw n e f) n j i s1 = s at N c2 ⊢
      have eσ : ((([some (.ref a), some (.ref fl), some (.ref rA), some (.ref cA), some (.ref fA), some (.bl s.C), v 0, v 1, v 2, v 3] : L2.St).set 8 (some (.int (i : Int)))).set 9 (some (.ref (ad i)))) = [some (.ref a), some (.ref fl), some (.ref rA), some (.ref cA), some (.ref fA), some (.bl s.C), some (.int (j : Int)), some (.int cj), some (.int (i : Int)), some (.ref (ad i))] := by rw [v0, v1]; rfl
      rw [eσ]
      have done : ∀ {H' : Hp}, rel (nw n e f) (n + j) i s = s → SX [rA, cA, fA] H H' → NBw n rA cA fA H' s → ∃ v, v 0 = some (.int (j : Int)) ∧ v 1 = some (.int cj) ∧ ST (rel (nw n e f) (n + j) i s) v [some (.ref a), some (.ref fl), some (.ref rA), some (.ref cA), some (.ref fA), some (.bl s.C), some (.int (j : Int)), some (.int cj), some (.int (i : Int)), some (.ref (ad i))] H' := fun er S N => by
        rw [er]
        exact ⟨fun k => if k = 0 then some (.int (j : Int)) else if k = 1 then some (.int cj) else if k = 2 then some (.int (i : Int)) else some (.ref (ad i)), rfl, rfl, rfl, S, N⟩
      have F2 := (hF.sx S).mm
      have tp : ∀ {b : Bool}, decide (0 < f i j) = b → Vt (tTest (tOp rGt (tOp (rIx K) (tVar 9) (tVar 6)) (tC (.int 0)))) [some (.ref a), some (.ref fl), some (.ref rA), some (.ref cA), some (.ref fA), some (.bl s.C), some (.int (j : Int)), some (.int cj), some (.int (i : Int)), some (.ref (ad i))] H2 b := fun h =>
        vt_is (vt_test (va_op (va_op (va_var rfl) (va_var rfl) (vr_xHl (f := fun j => .int (f i j)) (F2.2.1 i hi) hj)) va_c vr_gt)) h
      by_cases hp : 0 < f i j
      · obtain ⟨g, hg⟩ := hpos i j hi hj hp
        have hw : nw n e f (n + j) i = some (-g) := by rw [nw_b hi, if_pos hp, hg]; rfl
        have hT2 := S.tt hT
        have vsum : Va (tOp rSub (tVar 7) (tOp (rIx K) (tOp (rIx K) (tVar 0) (tVar 8)) (tVar 6))) [some (.ref a), some (.ref fl), some (.ref rA), some (.ref cA), some (.ref fA), some (.bl s.C), some (.int (j : Int)), some (.int cj), some (.int (i : Int)), some (.ref (ad i))] H2 (.int (cj + -g)) :=
          va_is (va_op (va_var rfl) (va_is (va_TT hT2 (va_var rfl) (va_var rfl) (va_var rfl) hi hj) (oV_some hg)) vr_sub) (by rw [Int.sub_eq_add_neg])
        have raise : ∀ {D : Ends}, (∀ σ'' H'', (∃ v, v 0 = some (.int (j : Int)) ∧ v 1 = some (.int cj) ∧ ST (rel (nw n e f) (n + j) i s) v σ'' H'') → D.nx σ'' H'') → rel (nw n e f) (n + j) i s = ⟨up s.S i (some (cj + -g)), up s.F i (some (n + j)), true⟩ →
            tSeq (tAsg (tOp rSub (tVar 7) (tOp (rIx K) (tOp (rIx K) (tVar 0) (tVar 8)) (tVar 6))) (gSub (tVar 2) (tVar 8) rSetL)) (tSeq (tAsg (tVar 6) (gSub (tVar 4) (tVar 8) rSetL)) (tAsg (tC (.bl true)) (gName 5))) D [some (.ref a), some (.ref fl), some (.ref rA), some (.ref cA), some (.ref fA), some (.bl s.C), some (.int (j : Int)), some (.int cj), some (.int (i : Int)), some (.ref (ad i))] H2 := fun {D} hD er => by
          refine q_setL (j := i) vsum (va_var rfl) (va_var rfl) N.r hi ?_
          refine q_setL (j := i) (va_var rfl) (va_var rfl) (va_var rfl) (show upd H2 rA _ fA = _ by rw [upd_ne (Ne.symm n2)]; exact N.e) hi ?_
          refine st_asg va_c (hD _ _ ?_)
          rw [er]
          refine ⟨fun k => if k = 0 then some (.int (j : Int)) else if k = 1 then some (.int cj) else if k = 2 then some (.int (i : Int)) else some (.ref (ad i)), rfl, rfl, rfl, ?_, ⟨⟨?_, ?_⟩, ?_⟩⟩
          · exact (S.put (by simp) N.r).put (by simp) (show upd H2 rA _ fA = _ by rw [upd_ne (Ne.symm n2)]; exact N.e)
          · rw [upd_ne n2, upd_same, rowS_up]
          · rw [upd_ne n3, upd_ne (Ne.symm n1), N.c]
            exact congrArg (fun l => some (HO.lst l)) (tab_congr fun k hk => by show oV _ = oV (up s.S i _ (n + k)); rw [up_ne (by omega)])
          · rw [upd_same, rowF_up]
        cases c4 : s.S i with
        | none =>
          refine st_ifT (vt_andT (tp (decide_eq_true hp)) (vt_or1 (vt_test (va_op (va_is (va_op (va_var rfl) (va_var rfl) (vr_xHl N.r hi)) (oV_none c4)) va_c vr_isNn)))) ?_
          exact raise (fun _ _ h => h) (by unfold rel; rw [hw, c2, c4])
        | some d =>
          refine st_if (b := decide (d < cj + -g)) (vt_andT (tp (decide_eq_true hp)) (vt_orF (vt_test (va_op (va_is (va_op (va_var rfl) (va_var rfl) (vr_xHl N.r hi)) (oV_some c4)) va_c vr_isNi)) (vt_test (va_op vsum (va_is (va_op (va_var rfl) (va_var rfl) (vr_xHl N.r hi)) (oV_some c4)) vr_gt)))) (fun hb => ?_) (fun hb => ?_)
          · exact raise (fun _ _ h => h) (by unfold rel; rw [hw, c2, c4]; exact if_pos (of_decide_eq_true hb))
          · exact done (by unfold rel; rw [hw, c2, c4]; exact if_neg (of_decide_eq_false hb)) S N
      · exact st_ifF (vt_and0 (tp (decide_eq_false hp))) (done (by unfold rel; rw [nw_b hi, if_neg hp]) S N)
  · subst es
    exact st_ret (va_var rfl) (q H' S N fun p h1 h2 h3 h4 => by
      cases c : H p with
      | none => exact absurd c h4
      | some u => exact S.at (by simp [h1, h2, h3]) c)
end
end K45
set_option Elab.async false
set_option linter.all false
set_option maxRecDepth 100000
set_option maxHeartbeats 200000
namespace K45
open PySem PySem.Spec PyProof.Rows L2
abbrev s_net_walks : Stmt := topS 32
theorem sc_net_walks : FnScope ["entries", "flows", "rows", "columns", "row_from", "column_from", "raised"] ["entries", "flows", "rows", "columns"] (defScope s_net_walks) := ⟨rfl, rfl, rfl, by decide +kernel, rfl, by decide +kernel, by decide +kernel⟩
def t_net_walks (K : PySem.W.Frag) (sp_net_forward sp_net_backward : Sp) : TS := (tSeq (tAsg (tOp rRep (tLst (tCons (tC .non) tNil)) (tCB (cLen K) (tCons (tVar 2) tNil))) (gName 4))
    (tSeq (tAsg (tOp rRep (tLst (tCons (tC .non) tNil)) (tCB (cLen K) (tCons (tVar 3) tNil))) (gName 5))
    (tSeq (tAsg (tC (.bl true)) (gName 6))
    (tSeq (tWhile (tB (tVar 6)) (tSeq (tAsg (tCall sp_net_forward [] E0 (tCons (tVar 0) (tCons (tVar 2) (tCons (tVar 3) (tCons (tVar 5) tNil))))) (gName 6))
    (tAsg (tOrV (tCall sp_net_backward [] E0 (tCons (tVar 0) (tCons (tVar 1) (tCons (tVar 2) (tCons (tVar 3) (tCons (tVar 4) tNil)))))) (tVar 6)) (gName 6))))
    (tRet (tTup (tCons (tVar 4) (tCons (tVar 5) tNil))))))))
theorem d_net_walks {P : Program} {w : World} {K : PySem.W.Frag} {mg : Str → Option Value} {base : Heap} (B : Bif mg) {sp_net_forward sp_net_backward : Sp} (c_net_forward : Cal P w K mg base 1 "net_forward" ["entries", "rows", "columns", "came"] sp_net_forward) (c_net_backward : Cal P w K mg base 1 "net_backward" ["entries", "flows", "rows", "columns", "came"] sp_net_backward) {f : Addr} {cdv : Value} {A : Around} {outer : List Env} {s : Shared} {H : Hp} {E : XK} (hr : Room 1 (A.deeper (envOfC "net_walks" (defScope s_net_walks) s.heap.objs.size f cdv))) :
    PSs (cxOf CX0 P w K mg base ["entries", "flows", "rows", "columns", "row_from", "column_from", "raised"] "net_walks" (defScope s_net_walks) f cdv A outer s H E).nox (defBody s_net_walks) (t_net_walks K sp_net_forward sp_net_backward) := by
  have nd := sc_net_walks.nd
  exact (pss_cons (ps_set (i := 4) nd rfl (Or.inl rfl) (pe_op op_rep (pe_lst (pa_cons pe_non pa_nil)) (pe_callB k_len (by rfl) B.len_ (by decide +kernel) (pa_cons (pv 2) pa_nil))))
      (pss_cons (ps_set (i := 5) nd rfl (Or.inl rfl) (pe_op op_rep (pe_lst (pa_cons pe_non pa_nil)) (pe_callB k_len (by rfl) B.len_ (by decide +kernel) (pa_cons (pv 3) pa_nil))))
      (pss_cons (ps_set (i := 6) nd rfl (Or.inl rfl) pe_bl)
      (pss_cons (ps_while PassesOwn.never (pt_val (pv 6)) (pss_cons (ps_set (i := 6) nd rfl (Or.inl rfl) (pe_cal c_net_forward hr (by decide) (by rfl) (pa_cons (pv 0) (pa_cons (pv 2) (pa_cons (pv 3) (pa_cons (pv 5) pa_nil))))))
      (pss_one (ps_set (i := 6) nd rfl (Or.inl rfl) (pe_or (pe_cal c_net_backward hr (by decide) (by rfl) (pa_cons (pv 0) (pa_cons (pv 1) (pa_cons (pv 2) (pa_cons (pv 3) (pa_cons (pv 4) pa_nil)))))) (pe_one (pv 6)))))))
      (pss_one (ps_ret (pe_tup (pa_cons (pv 4) (pa_cons (pv 5) pa_nil)))))))))

section
variable {P : Program} {w : World} {K : PySem.W.Frag} {mg : Str → Option Value} {base : Heap}
theorem SX.trans2 {X Y : List Addr} {H H1 H2 : Hp} (h : SX X H H1) (k : SX Y H1 H2) (hY : ∀ b, b ∈ Y → b ∈ X ∨ H b = none) : SX X H H2 := fun b u e => (h b u e).elim .inl fun z => (k b u z).elim (fun ⟨q, l, hl⟩ => (hY b q).elim (fun q => .inl ⟨q, l, hl⟩) fun q => by rw [e] at q; cases q) .inr
theorem start_gj {n : Nat} {W : Gr} {S0 : Nat → Option Int} {π : Nat → Int} (h : ∀ v c, v < 2 * n → S0 v = some c → c ≤ π v) : GJ (2 * n) W S0 π ⟨S0, fun _ => none, true⟩ :=
  ⟨fun _ => 0, 0, h, fun v c e => ⟨c, e, Int.le_refl c⟩, fun v c hv e => .inl ⟨e, rfl⟩, fun _ => Nat.le_refl 0⟩
theorem al_len {σ : L2.St} {H : Hp} {p : Addr} {n : Nat} {f : Nat → V} {te : TE} (h : Va te σ H (.ref p)) (hl : H p = some (.lst (tab n f))) : Va (tCB (cLen K) (tCons te tNil)) σ H (.int (n : Int)) := va_cb (vs_cons h vs_nil) (vc_lenHl hl)
theorem q_callM {σ : L2.St} {H : Hp} {D : Ends} {tz : TS} {i : Nat} {sp : Sp} {tr : TA} {vs : List V} (h : Vs tr σ H vs) (k : ∀ E : XK, sp vs H (fun v H' => tz D (σ.set i (some v)) H') E) : tSeq (tAsg (tCall sp [] E0 tr) (gName i)) tz D σ H := h _ (by rw [List.append_nil]; exact k _)
theorem st_orCall {σ : L2.St} {H : Hp} {D : Ends} {i j : Nat} {sp : Sp} {tr : TA} {vs : List V} {b : Bool} (h : Vs tr σ H vs) (hj : σ[j]? = some (some (V.bl b))) (k : ∀ E : XK, ∀ Q : VK, (∀ (c : Bool) H', D.nx (σ.set i (some (.bl (c || b)))) H' → Q (.bl c) H') → sp vs H Q E) : tAsg (tOrV (tCall sp [] E0 tr) (tVar j)) (gName i) D σ H := h _ (by
  rw [List.append_nil]
  refine k _ _ fun c H' q => ⟨c, rfl, ?_⟩
  cases c with
  | true => exact iteT q
  | false => exact iteF ⟨_, hj, q⟩)
def spWalks (K : PySem.W.Frag) : Sp := fun vs H Q _ => ∃ (n : Nat) (a fl rA cA : Addr) (ad : Nat → Addr) (e : Gr) (f : Fl) (S0 : Nat → Option Int) (π : Nat → Int), vs = [.ref a, .ref fl, .ref rA, .ref cA] ∧ TR K H a n n (oI e) ∧ FL n fl ad f [rA, cA] H ∧ n ≤ 1000 ∧ rA ≠ cA ∧
  NSt n rA cA H ⟨S0, fun _ => none, true⟩ ∧ PiOk n (nw n e f) π ∧ (∀ v c, v < 2 * n → S0 v = some c → c ≤ π v) ∧ (∀ i j, i < n → j < n → 0 < f i j → ∃ w, e i j = some w) ∧
  ∀ q H' eA fA S F τ, SX [rA, cA] H H' → SqT K H' q [.ref eA, .ref fA] → H' eA = some (.lst (tab n (rowF n F))) → H' fA = some (.lst (tab n (colF n F))) → H' rA = some (.lst (tab n (rowS S))) → H' cA = some (.lst (tab n (colS n S))) → NW n e f S0 π S F τ → H eA = none → H fA = none → Q (.ref q) H'
theorem cal_net_walks (T : Txt K mg) : Cal P w K mg base 2 "net_walks" ["entries", "flows", "rows", "columns"] (spWalks K) := by
  refine T.net_walks.cal sc_net_walks (fun vs H Q E h => ?_) (fun fa cdv A outer s H vs Q E hr h => ⟨_, d_net_walks T.B (cal_net_forward T) (cal_net_backward T) hr, ?_⟩)
  · obtain ⟨n, a, fl, rA, cA, ad, e, f, S0, π, rfl, _⟩ := h; rfl
  obtain ⟨n, a, fl, rA, cA, ad, e, f, S0, π, rfl, hT, hF, hn, nrc, hs, hπ, hb, hpos, q⟩ := h
  unfold t_net_walks
  refine q_asgA (al_rep (n := n) (v := .non) (vs_cons va_c vs_nil) (fun H1 S => al_len (va_var rfl) (S _ _ hs.r)) (by omega)) fun v H1 S1 ⟨eA, ev, ne, he1⟩ => ?_
  subst ev
  refine q_asgA (al_rep (n := n) (v := .non) (vs_cons va_c vs_nil) (fun H2 S => al_len (va_var rfl) ((S1.trans S) _ _ hs.c)) (by omega)) fun v H2 S2 ⟨fA, ev, nf1, hf2⟩ => ?_
  subst ev
  have nf : H fA = none := S1.none nf1
  have nef : eA ≠ fA := ne_of_none he1 nf1
  have nre : rA ≠ eA := ne_of_none hs.r ne
  have nce : cA ≠ eA := ne_of_none hs.c ne
  have nrf : rA ≠ fA := ne_of_none hs.r nf
  have ncf : cA ≠ fA := ne_of_none hs.c nf
  refine q_asg (v := .bl true) va_c ?_
  obtain ⟨N, hN⟩ := nseq_ends hπ (start_gj (W := nw n e f) hb)
  let ST : RS → List (Option V) → Hp → Prop := fun s σ H' => σ = [some (.ref a), some (.ref fl), some (.ref rA), some (.ref cA), some (.ref eA), some (.ref fA), some (.bl s.C)] ∧ SX [rA, cA] H H' ∧
    H' eA = some (.lst (tab n (rowF n s.F))) ∧ H' fA = some (.lst (tab n (colF n s.F))) ∧ NSt n rA cA H' s
  have aF : ∀ (X : List Addr) (Y : List Addr) {H1 : Hp}, SX [rA, cA] H H1 → (∀ b, b ∈ Y → b ∈ [rA, cA] ∨ H b = none) → FL n fl ad f Y H1 := fun X Y H1 S hY => by
    have h1 := hF.sx S
    refine ⟨h1.mm, fun z => ?_, fun i hi z => ?_⟩
    · rcases hY _ z with q | q
      · exact hF.a q
      · rw [hF.mm.1] at q; cases q
    · rcases hY _ z with q | q
      · exact hF.r i hi q
      · rw [hF.mm.2.1 i hi] at q; cases q
  refine q_while (fun m σ' H' => ∃ k, m + k = N + 1 ∧ ST (itr (nturn (nw n e f) n) k ⟨S0, fun _ => none, true⟩) σ' H') (N + 1) ⟨0, rfl, rfl, .of (S1.trans S2), S2 _ _ he1, hf2, ⟨(S1.trans S2) _ _ hs.r, (S1.trans S2) _ _ hs.c⟩⟩ fun m σ' H' ⟨k, em, es, S, e1, e2, N1⟩ => ?_
  subst es
  refine ⟨(itr (nturn (nw n e f) n) k ⟨S0, fun _ => none, true⟩).C, vt_B (va_var rfl), fun hC => ?_, fun hC => ?_⟩
  · have hkN : k ≠ N + 1 := fun z => by subst z; rw [hN] at hC; cases hC
    refine ⟨fun σ2 H2 => ST (itr (nturn (nw n e f) n) (k + 1) ⟨S0, fun _ => none, true⟩) σ2 H2, fun σ2 H2 h => ⟨m - 1, by omega, k + 1, by omega, h⟩, ?_⟩
    have et : itr (nturn (nw n e f) n) (k + 1) ⟨S0, fun _ => none, true⟩ = nturn (nw n e f) n (itr (nturn (nw n e f) n) k ⟨S0, fun _ => none, true⟩) := rfl
    rw [et]
    generalize itr (nturn (nw n e f) n) k ⟨S0, fun _ => none, true⟩ = s0 at e1 e2 N1 ⊢
    have hfr : ∀ {s : RS}, tab n (rowF n (fpass (nw n e f) n n s).F) = tab n (rowF n s.F) := fun {s} => by
      have : ∀ k, ∀ i, i < n → (fpass (nw n e f) n k s).F i = s.F i := by
        intro k
        induction k with
        | zero => intro i _; rfl
        | succ k ih => intro i hi; exact (frow_row hi).2.trans (ih i hi)
      exact tab_congr fun i hi => by show oN ((_ : Option Nat).map _) = oN ((_ : Option Nat).map _); rw [this n i hi]
    have hbc : ∀ {s : RS}, tab n (colF n (bpassN (nw n e f) n n s).F) = tab n (colF n s.F) := fun {s} => by
      have : ∀ {k}, k ≤ n → ∀ y, (bpassN (nw n e f) n k s).F (n + y) = s.F (n + y) := by
        intro k
        induction k with
        | zero => intro _ i; rfl
        | succ k ih => intro hk y; exact (bcol_col (Nat.le_refl n)).2.trans (ih (by omega) y)
      exact tab_congr fun i hi => by show oN _ = oN _; rw [this (Nat.le_refl n) i]
    refine q_callM (vs := [.ref a, .ref rA, .ref cA, .ref fA]) (vs_cons (va_var rfl) (vs_cons (va_var rfl) (vs_cons (va_var rfl) (vs_cons (va_var rfl) vs_nil)))) fun E => ⟨n, a, rA, cA, fA, e, f, s0, rfl, S.tt hT, hn, nrc, nrf, ncf, ⟨⟨N1.r, N1.c⟩, e2⟩, fun H3 SA NA _ => ?_⟩
    have S3 : SX [rA, cA] H H3 := S.trans2 SA (fun b hb => by
      rcases List.mem_cons.mp hb with z | hb
      · subst z; exact .inl (by simp)
      rcases List.mem_cons.mp hb with z | hb
      · subst z; exact .inl (by simp)
      · have z := List.mem_singleton.mp hb
        subst z; exact .inr nf)
    have e3 : H3 eA = some (.lst (tab n (rowF n (fpass (nw n e f) n n { s0 with C := false }).F))) := by rw [hfr]; exact SA.at (by simp [Ne.symm nre, Ne.symm nce, nef]) e1
    refine st_orCall (vs := [.ref a, .ref fl, .ref rA, .ref cA, .ref eA]) (vs_cons (va_var rfl) (vs_cons (va_var rfl) (vs_cons (va_var rfl) (vs_cons (va_var rfl) (vs_cons (va_var rfl) vs_nil))))) (b := (fpass (nw n e f) n n { s0 with C := false }).C) rfl fun E Q' q' => ⟨n, a, fl, rA, cA, eA, ad, e, f, fpass (nw n e f) n n { s0 with C := false }, rfl, S3.tt hT, aF [] _ S3 (fun b hb => by
      rcases List.mem_cons.mp hb with z | hb
      · subst z; exact .inl (by simp)
      rcases List.mem_cons.mp hb with z | hb
      · subst z; exact .inl (by simp)
      · have z := List.mem_singleton.mp hb
        subst z; exact .inr ne), hn, nrc, nre, nce, ⟨⟨NA.r, NA.c⟩, e3⟩, hpos, fun H4 SB NB _ => q' _ H4 ⟨rfl, S3.trans2 SB (fun b hb => by
      rcases List.mem_cons.mp hb with z | hb
      · subst z; exact .inl (by simp)
      rcases List.mem_cons.mp hb with z | hb
      · subst z; exact .inl (by simp)
      · have z := List.mem_singleton.mp hb
        subst z; exact .inr ne), NB.e, ?_, ⟨NB.r, NB.c⟩⟩⟩
    show H4 fA = some (.lst (tab n (colF n (bpassN (nw n e f) n n _).F)))
    rw [hbc]
    exact SB.at (by simp [Ne.symm nrf, Ne.symm ncf, Ne.symm nef]) NA.f
  · obtain ⟨τ, hW⟩ := nseq_nw hπ (start_gj (W := nw n e f) hb) rfl hC
    refine st_retA (al_tup (vs := [.ref eA, .ref fA]) (vs_cons (va_var rfl) (vs_cons (va_var rfl) vs_nil))) fun v H3 S3 ⟨p, ev, _, hp⟩ => ?_
    subst ev
    exact q p H3 eA fA _ _ τ (S.same S3) (SqT.of hp) (S3 _ _ e1) (S3 _ _ e2) (S3 _ _ N1.r) (S3 _ _ N1.c) hW ne nf
end
end K45
set_option Elab.async false
set_option linter.all false
set_option maxRecDepth 100000
set_option maxHeartbeats 1000000
namespace K45
open PySem PySem.Spec PyProof.Rows L2
/-! ### xs[1::2] of a list -/
theorem pick2 (items : Array Value) : slicePick items (some 1) none (some 2) = ((List.range (items.size / 2)).filterMap fun k => items[2 * k + 1]?).toArray := by
  unfold slicePick
  have hb : sliceBounds (some 1) none (some 2) items.size = (max 0 (min 1 (items.size : Int)), (items.size : Int), 2) := rfl
  rw [hb]
  show ((sliceRange (max 0 (min 1 (items.size : Int))) (items.size : Int) 2).filterMap (items[·]?)).toArray = _
  congr 1
  generalize hn : items.size = n
  unfold sliceRange
  rw [if_pos (show (2 : Int) > 0 by decide)]
  by_cases h0 : n = 0
  · subst h0; rfl
  · have e1 : max 0 (min 1 (n : Int)) = 1 := by omega
    rw [e1]
    have e2 : ((if (1 : Int) < n then (n - 1 + 2 - 1) / 2 else 0 : Int)).toNat = n / 2 := by
      by_cases h1 : (1 : Int) < n
      · rw [if_pos h1]; omega
      · rw [if_neg h1]; omega
    show List.filterMap (fun x => items[x]?) (List.map (fun k : Nat => ((1 : Int) + 2 * (k : Int)).toNat) (List.range ((if (1 : Int) < n then (n - 1 + 2 - 1) / 2 else 0 : Int)).toNat)) = _
    rw [e2, List.filterMap_map]
    apply congrArg (fun f => List.filterMap f (List.range (n / 2)))
    funext k
    show items[(1 + 2 * (k : Int)).toNat]? = items[2 * k + 1]?
    have : (1 + 2 * (k : Int)).toNat = 2 * k + 1 := by omega
    rw [this]
theorem vals_of_get : ∀ {n : Nat} {f : Nat → V} {g : Nat → Option Value}, (∀ k, k < n → ∃ u, g k = some u ∧ RelV (f k) u) → Vals (tab n f) ((List.range n).filterMap g)
  | 0, f, g, _ => .nil
  | n + 1, f, g, h => by
    rw [tab_succ, List.range_succ, List.filterMap_append]
    obtain ⟨u, hu, r⟩ := h n (Nat.lt_succ_self n)
    have ih := vals_of_get (n := n) (f := f) (g := g) fun k hk => h k (Nat.lt_succ_of_lt hk)
    have e : List.filterMap g [n] = [u] := by simp [hu]
    rw [e]
    exact ih.append (.cons r .nil)
def tSl2 (K : PySem.W.Frag) (te : TE) : TE := fun σ H Q => te σ H fun x H1 => ∃ a n f, x = .ref a ∧ SqL K H1 a (tab n f) ∧ ∀ p, H1 p = none → Q (.ref p) (upd H1 p (.lst (tab (n / 2) fun k => f (2 * k + 1))))
theorem pe_sl2 {X : Cx} {e : Expr} {te : TE} {k k2 : Nat} {p1 p2 p3 pos : Pos} (he : PE X e te) : PE X (.Subscript e (.Slice (some (.Constant (.int 1) k p1)) none (some (.Constant (.int 2) k2 p2)) p3) pos) (tSl2 X.K te) := by
  refine ⟨fun pins s σ H Q I h => ?_⟩
  refine Subscript_ (thn (he.run pins s σ H _ I h) fun v s1 ⟨x, H1, I1, r1, q1⟩ => ?_)
  obtain ⟨a, n, f, ex, hx, q⟩ := q1
  subst ex
  cases r1
  have hlo : PO X (some (.Constant (.int 1) k p1)) (tPart (tC (.int 1))) := po_some pe_int
  have hst : PO X (some (.Constant (.int 2) k2 p2)) (tPart (tC (.int 2))) := po_some pe_int
  refine wpAny_Slice (thn (hlo.run pins s1 σ H1 (fun o H2 => o = some 1 ∧ H2 = H1) I1 ⟨1, rfl, rfl, rfl⟩) fun vl s2 ⟨l, H2, I2, pl, el, e2⟩ => ?_)
  subst el e2
  refine thn (po_none.run pins s2 σ H2 (fun o H3 => o = none ∧ H3 = H2) I2 ⟨rfl, rfl⟩) fun vu s3 ⟨u, H3, I3, pu, eu, e3⟩ => ?_
  subst eu e3
  refine thn (hst.run pins s3 σ H3 (fun o H4 => o = some 2 ∧ H4 = H3) I3 ⟨2, rfl, rfl, rfl⟩) fun vs s4 ⟨o, H4, I4, ps, eo, e4⟩ => ?_
  subst eo e4
  have I5 : Inv X pins σ H4 { s4 with heap := s4.heap.push { cls := .type "slice", data := .fields #[vl, vu, vs] } } := I4.kept (t' := s4.toks) fun b ob q => Heap.get?_push_of_some _ q
  obtain ⟨its, r, ht, hz⟩ := I5.list hx
  have hlen := r.length
  rw [tab_len] at hlen hz
  show wpAny (model X.prog X.w) X.A (subscriptTail e (.Slice (some (.Constant (.int 1) k p1)) none (some (.Constant (.int 2) k2 p2)) p3) (.ref a) (.ref s4.heap.objs.size)) (EP X pins σ Q) X.xe { s4 with heap := s4.heap.push { cls := .type "slice", data := .fields #[vl, vu, vs] } }
  refine tail_any (ops := [.ref a, .ref s4.heap.objs.size]) ht.isList.typeIs (PySem.slot_list_getitem.lookup) ?_ (by with_unfolding_all rfl)
  refine wpAny_getItem_list_slice ht.isList (Heap.IsSliceOf.new _ vl vu vs) pl pu ps (by decide) ?_ (by rw [List.size_toArray]; omega)
  rw [pick2]
  refine ⟨.ref _, _, I5.laid (t' := s4.toks) (o := .lst (tab (n / 2) fun k => f (2 * k + 1))) (fun b ob q => Heap.get?_push_of_some _ q) (Nat.le_refl _) ?_, rfl, q _ (I5.hok.fresh (Nat.le_refl _))⟩
  refine ⟨by rw [tab_len]; exact Nat.le_trans (Nat.div_le_self n 2) hz, _, 0, ?_, Heap.get?_push_size _ rfl⟩
  rw [List.size_toArray, ← hlen]
  refine vals_of_get fun k hk => ?_
  obtain ⟨u, hu, ru⟩ := r.get (tab_get (n := n) (f := f) (i := 2 * k + 1) (by omega))
  exact ⟨u, by simpa using hu, ru⟩
/-! ### o[i], by values -/
def rGetL (K : PySem.W.Frag) : V → V → Hp → VK → Prop := fun o i H Q => ∃ (p : Addr) (xs : List V) (j : Nat) (x : V), o = .ref p ∧ i = .int (j : Int) ∧ SqL K H p xs ∧ xs[j]? = some x ∧ Q x H
theorem pget_list {X : Cx} : PGet X (rGetL X.K) := by
  intro pins s σ H o i ov iv Q I ro ri h
  obtain ⟨p, xs, j, x, rfl, rfl, hp, hx, q⟩ := h
  cases ro
  obtain ⟨t, rfl⟩ := ri
  obtain ⟨its, r, pl, hz⟩ := I.list hp
  obtain ⟨u, hu, ru⟩ := r.get hx
  have hj : j < xs.length := (List.getElem?_eq_some_iff.mp hx).1
  have hn := line63
  exact wpAny_getItem_list pl.isList (by omega) (by omega) (by simpa using hu) ⟨x, H, I, ru, q⟩
/-! ### sum of ints -/
theorem pre_range (f : Nat → Int) : ∀ n, preSum f n = ((List.range n).map f).sum
  | 0 => rfl
  | n + 1 => by
    rw [List.range_succ, List.map_append, List.sum_append, ← pre_range f n]
    show _ = preSum f n + (f n + 0)
    rw [Int.add_zero]; rfl
theorem range_getD (ns : List Int) : (List.range ns.length).map (fun i => ns.getD i 0) = ns := by
  apply List.ext_getElem?
  intro i
  by_cases h : i < ns.length
  · rw [List.getElem?_map, List.getElem?_range h, List.getElem?_eq_getElem h]
    simp [List.getD, List.getElem?_eq_getElem h]
  · rw [List.getElem?_eq_none (by simp; omega), List.getElem?_eq_none (by omega)]
def cSum (K : PySem.W.Frag) : List V → Hp → VK → Prop := fun vs H Q => ∃ (a : Addr) (ns : List Int), vs = [V.ref a] ∧ (SqL K H a (ns.map V.int) ∨ SqT K H a (ns.map V.int)) ∧ Q (.int ns.sum) H
theorem k_sum {X : Cx} (hc : X.calm = true) : CallR X (.builtin "sum") (cSum X.K) := by
  intro pins s σ H vs us Q I r h
  obtain ⟨a, ns, rfl, hs, q⟩ := h
  rcases hs with hs | hs
  · exact cr_sum hc pins s σ H _ us Q I r ⟨a, ns, rfl, hs, q⟩
  · obtain ⟨its, rv, hT, hz⟩ := I.tuple hs
    rw [Vals.ref1 r]
    have hT' : s.heap.IsTuple a its.toArray := hT
    obtain ⟨oT, hoT, hcT⟩ := id hT'
    have hlt : a < s.heap.objs.size := Heap.lt_size hoT
    have hlen : its.length = ns.length := by have := rv.length; rw [List.length_map] at this; exact this.symm
    refine call_sum_walkG (wpAny_pyIter_tuple hT' ?_)
    refine ⟨s.heap.objs.size, _, _, _, _, _, fun i => ns.getD i 0, rfl, Walks.tuple (A := X.A.in1) (I.ok.hd hc) s.heap.objs.size a (Nat.ne_of_lt hlt) its.toArray, ⟨⟨_, Heap.get?_push_size _ rfl, rfl, rfl⟩, hT'.at fun o e => Heap.get?_push_of_some _ e⟩, fun b hb => ?_, fun i v hv => ?_, fun h' tk t' hk => ?_⟩
    · show b < (s.heap.push _).objs.size
      rw [Heap.size_push]
      rcases List.mem_cons.mp hb with e | hb
      · rw [e]; exact Nat.lt_succ_self _
      · rw [List.mem_singleton.mp hb]; exact Nat.lt_succ_of_lt hlt
    · have hv' : its[i]? = some v := by simpa using hv
      have hi : i < its.length := (List.getElem?_eq_some_iff.mp hv').1
      obtain ⟨u, hu, ru⟩ := rv.get (i := i) (x := .int (ns.getD i 0)) (by rw [List.getElem?_map, List.getElem?_eq_getElem (by omega)]; simp [List.getD, List.getElem?_eq_getElem (show i < ns.length by omega)])
      rw [hv'] at hu
      cases hu
      obtain ⟨t, rfl⟩ := ru
      exact ⟨t, rfl⟩
    · have hps : preSum (fun i => ns.getD i 0) its.toArray.size = ns.sum := by
        rw [List.size_toArray, hlen, pre_range, range_getD]
      rw [hps]
      refine ⟨.int ns.sum, H, I.kept (t' := tk) fun b o e => ?_, ⟨t', rfl⟩, q⟩
      exact hk b o (fun hm => by
        have := List.mem_singleton.mp hm
        rw [this] at e
        exact Nat.lt_irrefl _ (Heap.lt_size e)) (Heap.get?_push_of_some _ e)
/-! ### zip of a list and a tuple -/
def ItzM (K : PySem.W.Frag) (a b : Addr) : It :=
  ⟨fun i H => ∃ (xs ys : List V) (x y : V), SqL K H a xs ∧ SqT K H b ys ∧ xs[i]? = some x ∧ ys[i]? = some y,
    fun i H v H' => ∃ T x y, v = .ref T ∧ H T = none ∧ H' = upd H T (.tup [x, y]) ∧ (∀ xs, SqL K H a xs → xs[i]? = some x) ∧ ∀ ys, SqT K H b ys → ys[i]? = some y,
    fun i H => ∃ xs ys : List V, SqL K H a xs ∧ SqT K H b ys ∧ xs.length = i ∧ ys.length = i⟩
theorem k_turn_zipM {P : Program} {w : World} {K : PySem.W.Frag} {elts : List Expr} {kk : Nat} {tpos : Pos} {a b z TI TO i1 i2 : Addr} (D : ZipSep2 z TI TO i1 i2 [i1, a] [i2, b]) (ha : a ≠ i1) (hb : b ≠ i2) :
    Turn P w K (.Tuple elts kk tpos) (ItzM K a b) [z, TI, TO, i1, i2] z (fun i h => IsZip h z TI TO .none ∧ IsPair h TI (.ref i1) (.ref i2) ∧ (∃ x y, IsPair h TO x y) ∧ h.IsListIter i1 a i ∧ h.IsTupleIter i2 b i) where
  mem := by simp
  obj := fun i h st c hc => by
    obtain ⟨hz, hTI, ⟨x, y, hTO⟩, ⟨o1, e1, _, d1⟩, ⟨o2, e2, _, d2⟩⟩ := st
    have e' : c = z ∨ c = TI ∨ c = TO ∨ c = i1 ∨ c = i2 := by simpa using hc
    rcases e' with q | q | q | q | q
    · rw [q]; exact ⟨_, hz, fun v q => nomatch q⟩
    · rw [q]; exact ⟨_, hTI, fun v q => nomatch q⟩
    · rw [q]; exact ⟨_, hTO, fun v q => nomatch q⟩
    · rw [q]; exact ⟨o1, e1, fun v q => by rw [d1] at q; cases q⟩
    · rw [q]; exact ⟨o2, e2, fun v q => by rw [d2] at q; cases q⟩
  keep := fun i h h' st k => by
    obtain ⟨hz, hTI, ⟨x, y, hTO⟩, h1, h2⟩ := st
    exact ⟨k z (by simp) _ hz, k TI (by simp) _ hTI, ⟨x, y, k TO (by simp) _ hTO⟩, h1.at fun o q => k i1 (by simp) o q, h2.at fun o q => k i2 (by simp) o q⟩
  item := by
    intro X hP hw hK hc i pins s σ H E I hf st hg
    subst hP hw hK
    obtain ⟨hz, hTI, ⟨x0, y0, hTO⟩, h1, h2⟩ := st
    obtain ⟨xs, ys, x, y, hqx, hqy, hx, hy⟩ := hg
    obtain ⟨its, rv, p, _⟩ := I.list hqx
    obtain ⟨its2, rv2, p2, _⟩ := I.tuple hqy
    obtain ⟨u, hu, ru⟩ := rv.get hx
    obtain ⟨u2, hu2, ru2⟩ := rv2.get hy
    have hzl : z < s.heap.objs.size := Heap.lt_size hz
    have l1 : i < its.toArray.size := by have := (List.getElem?_eq_some_iff.mp hu).1; simpa using this
    have l2 : i < its2.toArray.size := by have := (List.getElem?_eq_some_iff.mp hu2).1; simpa using this
    refine wpAny_pyNext_zipD2_item D (Draws.list (prog := X.prog) (w := X.w) (A := X.A.in1) (I.ok.hd hc) i1 a ha its.toArray) (Draws.tuple (prog := X.prog) (w := X.w) (A := X.A.in1) (I.ok.hd hc) i2 b hb its2.toArray) hz hTI hTO ⟨h1, p.isList⟩ ⟨h2, p2⟩ l1 l2 fun v1 v2 h' tk hv1 hv2 z' TO' h1' h2' hT hsz hk => ?_
    have ev1 : v1 = u := by
      have e1 : its[i]? = some v1 := by simpa using hv1
      rw [hu] at e1; exact (Option.some.inj e1).symm
    have ev2 : v2 = u2 := by
      have e1 : its2[i]? = some v2 := by simpa using hv2
      rw [hu2] at e1; exact (Option.some.inj e1).symm
    subst ev1 ev2
    refine ⟨_, rfl, wpAny_letOwnedTupleGo_zip (s := { s with heap := h', toks := tk }) z' fun h'' z'' sb => ?_⟩
    have hT2 : h''.get? s.heap.objs.size = some { cls := .type "tuple", data := .seq #[v1, v2] } := (sb.2 _ (Nat.ne_of_gt hzl)).trans hT
    have new : ObjOk X.prog X.w (upd H s.heap.objs.size (.tup [x, y])) h'' s.heap.objs.size (.tup [x, y]) :=
      ⟨by show 2 ≤ sizeLine; decide, [v1, v2], .cons ru (.cons ru2 .nil), ⟨_, hT2, rfl, _, rfl⟩⟩
    have I1 : Inv X pins σ (upd H s.heap.objs.size (.tup [x, y])) { s with heap := h'', toks := tk } :=
      I.turnedNew (ch := [z, TI, TO, i1, i2]) (fun c o hb q => (sb.2 c (fun q' => hb (by simp [q']))).trans (hk c o (fun q' => hb (by simp [q'])) (fun q' => hb (by simp [q'])) (fun q' => hb (by simp [q'])) (fun q' => hb (by simp [q'])) q)) hf (Nat.le_refl _) new
    refine ⟨.ref s.heap.objs.size, _, I1, rfl, ⟨_, x, y, rfl, I.hok.fresh (Nat.le_refl _), rfl, fun l hl => by rw [I.list_inj hl hqx]; exact hx, fun l hl => by rw [I.tuple_inj hl hqy]; exact hy⟩, ⟨z'', ?_, ⟨v1, v2, ?_⟩, ?_, ?_⟩, fun c hcm => ?_⟩
    · exact (sb.2 _ D.TIz).trans (hk _ _ D.TIz D.TITO D.TIi1 D.TIi2 hTI)
    · exact (sb.2 _ D.TOz).trans TO'
    · exact h1'.1.at fun o q => (sb.2 _ (Ne.symm D.zi1)).trans q
    · exact h2'.1.at fun o q => (sb.2 _ (Ne.symm D.zi2)).trans q
    · have hlt : c < s.heap.objs.size := by
        have e' : c = z ∨ c = TI ∨ c = TO ∨ c = i1 ∨ c = i2 := by simpa using hcm
        rcases e' with q | q | q | q | q
        · rw [q]; exact hzl
        · rw [q]; exact Heap.lt_size hTI
        · rw [q]; exact Heap.lt_size hTO
        · rw [q]; obtain ⟨_, e1, _⟩ := h1; exact Heap.lt_size e1
        · rw [q]; obtain ⟨_, e2, _⟩ := h2; exact Heap.lt_size e2
      rw [upd_ne (Nat.ne_of_lt hlt)]
      exact (hf c hcm).1
  done := by
    intro X hP hw hK hc i pins s σ H E I hf st hg
    subst hP hw hK
    obtain ⟨hz, hTI, ⟨x0, y0, hTO⟩, h1, h2⟩ := st
    obtain ⟨xs, ys, hqx, hqy, e1, e2⟩ := hg
    obtain ⟨its, rv, p, _⟩ := I.list hqx
    obtain ⟨its2, rv2, p2, _⟩ := I.tuple hqy
    have l1 : i = its.toArray.size := by have := rv.length; rw [List.size_toArray, ← this, e1]
    have l2 : i = its2.toArray.size := by have := rv2.length; rw [List.size_toArray, ← this, e2]
    exact wpAny_pyNext_zipD2_end D (Draws.list (prog := X.prog) (w := X.w) (A := X.A.in1) (I.ok.hd hc) i1 a ha its.toArray) (Draws.tuple (prog := X.prog) (w := X.w) (A := X.A.in1) (I.ok.hd hc) i2 b hb its2.toArray) hz hTI hTO ⟨h1, p.isList⟩ ⟨h2, p2⟩ (Nat.le_of_eq l1) (Nat.le_of_eq l2) (.inl l1) fun h' tk hk => ⟨rfl, I.turnedL (t' := tk) (ch := [z, TI, TO, i1, i2]) (fun c o hb q =>
      hk c o (fun q' => hb (by simp [q'])) (fun q' => hb (by simp [q'])) (fun q' => hb (by simp [q'])) (fun q' => hb (by simp [q'])) q) hf⟩
  self := fun A i s Q E st h => wpAny_pyIter_zip st.1 h
theorem sep_nat {m a b : Nat} (la : a < m) (lb : b < m) : ZipSep2 (m + 4) (m + 2) (m + 3) m (m + 1) [m, a] [m + 1, b] where
  TIz := show m + 2 ≠ m + 4 by omega
  TOz := show m + 3 ≠ m + 4 by omega
  TITO := show m + 2 ≠ m + 3 by omega
  TIi1 := show m + 2 ≠ m by omega
  mem1 := List.mem_cons_self ..
  zf1 := fun h => by
    rcases List.mem_cons.mp h with z | z
    · exact absurd z (show m + 4 ≠ m by omega)
    · exact absurd (List.mem_singleton.mp z) (show m + 4 ≠ a by omega)
  Tf1 := fun h => by
    rcases List.mem_cons.mp h with z | z
    · exact absurd z (show m + 3 ≠ m by omega)
    · exact absurd (List.mem_singleton.mp z) (show m + 3 ≠ a by omega)
  TIi2 := show m + 2 ≠ m + 1 by omega
  mem2 := List.mem_cons_self ..
  zf2 := fun h => by
    rcases List.mem_cons.mp h with z | z
    · exact absurd z (show m + 4 ≠ m + 1 by omega)
    · exact absurd (List.mem_singleton.mp z) (show m + 4 ≠ b by omega)
  Tf2 := fun h => by
    rcases List.mem_cons.mp h with z | z
    · exact absurd z (show m + 3 ≠ m + 1 by omega)
    · exact absurd (List.mem_singleton.mp z) (show m + 3 ≠ b by omega)
  sep1_2 := fun h => by
    rcases List.mem_cons.mp h with z | z
    · exact absurd z (show m ≠ m + 1 by omega)
    · exact absurd (List.mem_singleton.mp z) (show m ≠ b by omega)
  sep2_1 := fun h => by
    rcases List.mem_cons.mp h with z | z
    · exact absurd z (show m + 1 ≠ m by omega)
    · exact absurd (List.mem_singleton.mp z) (show m + 1 ≠ a by omega)
def iZipM (K : PySem.W.Frag) (ta : TA) : TI := fun σ H R => ta σ H fun vs H1 => ∃ a b xs ys, vs = [.ref a, .ref b] ∧ SqL K H1 a xs ∧ SqT K H1 b ys ∧ R (ItzM K a b) H1
theorem pi_zipM {X : Cx} {e e2 : Expr} {ta : TA} {p pos tpos : Pos} {elts : List Expr} {kk : Nat} (hg : Gl X "zip") (hm : X.mg "zip" = none) (ha : PA X [e, e2] ta)
    (hs : starEach [e, e2] X.env = (false, eval e X.env) :: starEach [e2] X.env := by rfl) (hpl : (backTo pos (starEach [e2] X.env)).any (·.1) = false := by rfl) :
    PI X (.Tuple elts kk tpos) (.Call (.Name "zip" p) [e, e2] [] pos) (iZipM X.K ta) := by
  refine ⟨fun pins s σ H R I h => ?_⟩
  refine Call_ (ld_blt I hg hm PyProof.Rows.boot_zip (PyProof.Rows.callWith_type1 (thn (ha.run pos pins s σ H _ I h) fun us s1 ⟨vs, H1, I1, r1, q1⟩ => ?_) hs hpl))
  obtain ⟨a, b, xs, ys, ex, hqx, hqy, q⟩ := q1
  subst ex
  cases r1 with
  | cons r rr =>
    cases rr with
    | cons r' rr =>
      cases rr
      cases r
      cases r'
      obtain ⟨its, rv, p1, _⟩ := I1.list hqx
      obtain ⟨its2, rv2, p2, _⟩ := I1.tuple hqy
      have la : a < s1.heap.objs.size := p1.lt
      have lb : b < s1.heap.objs.size := by obtain ⟨o2, ho2, _⟩ := id p2; exact Heap.lt_size ho2
      refine zip_begins2 (begins_list a its.toArray) (begins_tuple b its2.toArray) p1.isList p2 fun h' hz hTI hTO h1 h2 hsz hk => wpAny_pyIter_zip hz ?_
      have I2 : Inv X pins σ H1 { s1 with heap := h' } := I1.kept (t' := s1.toks) hk
      have D : ZipSep2 (s1.heap.objs.size + 4) (s1.heap.objs.size + 2) (s1.heap.objs.size + 3) s1.heap.objs.size (s1.heap.objs.size + 1) [s1.heap.objs.size, a] [s1.heap.objs.size + 1, b] := sep_nat la lb
      refine ⟨s1.heap.objs.size + 4, [s1.heap.objs.size + 4, s1.heap.objs.size + 2, s1.heap.objs.size + 3, s1.heap.objs.size, s1.heap.objs.size + 1], _, _, H1, rfl, I2, k_turn_zipM D (Nat.ne_of_lt la) (Nat.ne_of_lt (Nat.lt_succ_of_lt lb)), ⟨hz, hTI, ⟨_, _, hTO⟩, ⟨_, h1, rfl, rfl⟩, ⟨_, h2, rfl, rfl⟩⟩, fun c hcm => ?_, q⟩
      have hle : s1.heap.objs.size ≤ c := by
        have e' : c = s1.heap.objs.size + 4 ∨ c = s1.heap.objs.size + 2 ∨ c = s1.heap.objs.size + 3 ∨ c = s1.heap.objs.size ∨ c = s1.heap.objs.size + 1 := by simpa using hcm
        rcases e' with z | z | z | z | z
        · rw [z]; exact Nat.le_add_right _ _
        · rw [z]; exact Nat.le_add_right _ _
        · rw [z]; exact Nat.le_add_right _ _
        · rw [z]; exact Nat.le_refl _
        · rw [z]; exact Nat.le_add_right _ _
      exact I1.fpOk hle (I1.hok.fresh hle)
end K45
set_option Elab.async false
set_option linter.all false
set_option maxRecDepth 100000
set_option maxHeartbeats 1000000
namespace K45
open PySem PySem.Spec PyProof.Rows L2
open Sem (wp)
abbrev NoE : Value → Shared → Prop := fun _ _ => False
abbrev testsF (ifs : List Expr) (env : Env) : Sem Bool := forIn ifs true fun c r => if r = true then do let ok ← isTrue c env (eval c env); pure (ForInStep.yield ok) else pure (ForInStep.yield r)
section
variable {prog : Program} {w : World} {A : Around} {R : Result → Shared → Prop} {s : Shared} {elt t1 it1 t2 it2 : Expr} {ifs1 ifs2 : List Expr} {scope : Scope} {pos : Pos} {it acc : Value} {env : Env}
/-- the inner loop -/
theorem comp2_in (I : Nat → Shared → Prop)
    (turn : ∀ n s, I n s → wpAny (model prog w) A (pyNext it) (fun r s₁ => match r with
      | none => R (.ok .next) s₁
      | some v => wpAny (model prog w) A (letOwnedTupleGo t2 it v) (fun _ s₁' => wpAny (model prog w) A (assign t2 env v) (fun _ s₂ =>
          wpAny (model prog w) A (testsF ifs2 env) (fun ok s₃ =>
            if ok = true then wpAny (model prog w) A (eval elt env) (fun x s₄ =>
              wpAny (model prog w) A (call (.builtin "list.append") [acc, x]) (fun _ s₅ => ∃ m, m < n ∧ I m s₅) NoE s₄) NoE s₃
            else ∃ m, m < n ∧ I m s₃) NoE s₂) NoE s₁') NoE s₁) NoE s)
    (n : Nat) (h : I n s) :
    codeAny (model prog w) A (.compLoop (.ListComp elt [⟨t1, it1, ifs1, 0⟩, ⟨t2, it2, ifs2, 0⟩] scope pos) 1 it acc env) R s := by
  refine codeAny_loop rfl I (fun n s hI => ?_) n h
  show wpAny _ A ((compTurn (.ListComp elt [⟨t1, it1, ifs1, 0⟩, ⟨t2, it2, ifs2, 0⟩] scope pos) 1 it acc env).onRaise (fun x => do noteFrame x env; theTreesLotGoes x)) _ _ s
  refine wpAny_noted ?_
  rw [compTurn_list2_in]
  refine wpAny_bind (wpAny_standAt (wpAny_bind (thnF (turn n s hI) fun r s₁ h₁ => ?_)))
  cases r with
  | none => exact wpAny_pure h₁
  | some v =>
    refine wpAny_bind (thnF h₁ fun _ s₁' h₁' => ?_)
    refine wpAny_bind (thnF h₁' fun _ s₂ h₂ => wpAny_bind (thnF h₂ fun ok s₃ h₃ => ?_))
    cases ok with
    | false => exact wpAny_pure ⟨rfl, h₃⟩
    | true => exact wpAny_bind (wpAny_bind (thnF h₃ fun x s₄ h₄ => wpAny_bind (thnF h₄ fun _ s₅ h₅ => wpAny_pure (wpAny_pure ⟨rfl, h₅⟩))))
/-- the outer loop -/
theorem comp2_out (hs : ∀ x, foldedSetIterable it2 env x = pure x) (I : Nat → Shared → Prop)
    (turn : ∀ n s, I n s → wpAny (model prog w) A (pyNext it) (fun r s₁ => match r with
      | none => R (.ok .next) s₁
      | some v => wpAny (model prog w) A (letOwnedTupleGo t1 it v) (fun _ s₁' => wpAny (model prog w) A (assign t1 env v) (fun _ s₂ =>
          wpAny (model prog w) A (testsF ifs1 env) (fun ok s₃ =>
            if ok = true then wpAny (model prog w) A (eval it2 env) (fun xv s₄ => wpAny (model prog w) A (pyIter xv) (fun itv s₅ =>
              (∀ (Q : Value → Shared → Prop) (E : Value → Shared → Prop), Q itv s₅ → wpAny (model prog w) A (pyIter itv) Q E s₅) ∧
              ∀ R' : Result → Shared → Prop, (∀ s', (∃ m, m < n ∧ I m s') → R' (.ok .next) s') → codeAny (model prog w) A (.compLoop (.ListComp elt [⟨t1, it1, ifs1, 0⟩, ⟨t2, it2, ifs2, 0⟩] scope pos) 1 itv acc env) R' s₅) NoE s₄) NoE s₃
            else ∃ m, m < n ∧ I m s₃) NoE s₂) NoE s₁') NoE s₁) NoE s)
    (n : Nat) (h : I n s) :
    codeAny (model prog w) A (.compLoop (.ListComp elt [⟨t1, it1, ifs1, 0⟩, ⟨t2, it2, ifs2, 0⟩] scope pos) 0 it acc env) R s := by
  refine codeAny_loop rfl I (fun n s hI => ?_) n h
  show wpAny _ A ((compTurn (.ListComp elt [⟨t1, it1, ifs1, 0⟩, ⟨t2, it2, ifs2, 0⟩] scope pos) 0 it acc env).onRaise (fun x => do noteFrame x env; theTreesLotGoes x)) _ _ s
  refine wpAny_noted ?_
  rw [compTurn_list2_out]
  refine wpAny_bind (wpAny_standAt (wpAny_bind (thnF (turn n s hI) fun r s₁ h₁ => ?_)))
  cases r with
  | none => exact wpAny_pure h₁
  | some v =>
    refine wpAny_bind (thnF h₁ fun _ s₁' h₁' => ?_)
    refine wpAny_bind (thnF h₁' fun _ s₂ h₂ => wpAny_bind (thnF h₂ fun ok s₃ h₃ => ?_))
    cases ok with
    | false => exact wpAny_pure ⟨rfl, h₃⟩
    | true =>
      refine wpAny_bind (thnF h₃ fun xv s₄ h₄ => ?_)
      refine wpAny_bind (wpAny_standAt (wpAny_bind (wpAny_of_eq (hs xv) ?_)))
      refine wpAny_bind (wpAny_holding (thnF h₄ fun itv s₅ ⟨hself, loop⟩ => ?_))
      refine wpAny_bind (wpAny_runOwn ?_)
      refine compStart_list2_in (loop _ fun s' hm => ?_) (hself _ _ (loop _ fun s' hm => ?_))
      · exact wpAny_pure ⟨rfl, hm⟩
      · exact wpAny_pure ⟨rfl, hm⟩
end
theorem wipe_get (σ : St) (i : Nat) : ∀ vs : List Nat, (wipe σ vs)[i]? = if i ∈ vs then (σ[i]?).map (fun _ => none) else σ[i]?
  | [] => by simp [wipe]
  | v :: vs => by
    unfold wipe
    by_cases e : i = v
    · subst e
      rw [if_pos (List.mem_cons_self ..)]
      by_cases hl : i < σ.length
      · rw [List.getElem?_set_self (by rw [wipe_length]; exact hl), List.getElem?_eq_getElem hl]; rfl
      · rw [List.getElem?_eq_none (by rw [List.length_set, wipe_length]; omega), List.getElem?_eq_none (by omega)]; rfl
    · rw [List.getElem?_set_ne (Ne.symm e), wipe_get σ i vs]
      by_cases h : i ∈ vs
      · rw [if_pos h, if_pos (List.mem_cons_of_mem _ h)]
      · rw [if_neg h, if_neg (fun z => (List.mem_cons.mp z).elim e h)]
theorem wipe_sub {σ : St} {vs vs1 : List Nat} (h : ∀ x, x ∈ vs1 → x ∈ vs) : wipe (wipe σ vs1) vs = wipe σ vs := by
  apply List.ext_getElem?
  intro i
  rw [wipe_get, wipe_get, wipe_get]
  by_cases e : i ∈ vs
  · rw [if_pos e, if_pos e]
    by_cases e1 : i ∈ vs1
    · rw [if_pos e1]; cases σ[i]? <;> rfl
    · rw [if_neg e1]
  · rw [if_neg e, if_neg e, if_neg fun z => e (h i z)]
def tLc2 (wi1 : TI) (g1 : TG) (tt1 : TT) (wi2 : TI) (g2 : TG) (tt2 : TT) (te : TE) (vs vs1 : List Nat) : TE := fun σ H Q => wi1 σ H fun J H1 => ∀ D, H1 D = none → ∃ W : Nat → Nat → Hp → Prop, (∃ m, W 0 m (upd H1 D (.lst []))) ∧ ∀ i m H, W i m H →
  (J.stop i H ∧ Q (.ref D) H) ∨ (J.go i H ∧ ∃ Nx : Hp → Prop, (∀ H', Nx H' → ∃ m', m' < m ∧ W (i + 1) m' H') ∧ ∀ x H', J.yld i H x H' → g1 x (wipe σ vs) H' fun σ2 H2 => wipe σ2 vs = wipe σ vs ∧ tt1 σ2 H2 fun b H3 =>
    if b = true then wi2 σ2 H3 fun J2 H4 => ∃ W2 : Nat → Nat → Hp → Prop, (∃ m, W2 0 m H4) ∧ ∀ i2 m2 H5, W2 i2 m2 H5 →
      (J2.stop i2 H5 ∧ Nx H5) ∨ (J2.go i2 H5 ∧ ∃ Nx2 : Hp → Prop, (∀ H', Nx2 H' → ∃ m', m' < m2 ∧ W2 (i2 + 1) m' H') ∧ ∀ x H', J2.yld i2 H5 x H' → g2 x (wipe σ2 vs1) H' fun σ3 H6 => wipe σ3 vs1 = wipe σ2 vs1 ∧ tt2 σ3 H6 fun b H7 =>
        if b = true then te σ3 H7 fun y H8 => ∃ acc, H8 D = some (.lst acc) ∧ acc.length < sizeLine ∧ Nx2 (upd H8 D (.lst (acc ++ [y]))) else Nx2 H7)
    else Nx H3)
section
variable {X : Cx}
theorem pe_lc2 {elt t1 it1 t2 it2 : Expr} {ifs1 ifs2 : List Expr} {scope : Scope} {own : List (Str × Nat)} {vs1 : List Nat} {pos : Pos} {wi1 wi2 : TI} {g1 g2 : TG} {tt1 tt2 : TT} {te : TE} (hc : X.calm = true) (hN : X.N.Nodup) (hi : PI X t1 it1 wi1) (ok : BlkOk X.N X.env.scope scope own) (hv : ∀ x, x ∈ vs1 → x ∈ own.map (·.2))
    (hg : ∀ (s : Shared) (H : Hp) (C : Addr) (cl : List (Str × Addr)) (fp : List Addr), PG (X.blk s H scope (compEnvC scope cl C X.env) fp) t1 g1) (ht : ∀ (s : Shared) (H : Hp) (C : Addr) (cl : List (Str × Addr)) (fp : List Addr), PTs (X.blk s H scope (compEnvC scope cl C X.env) fp) ifs1 tt1)
    (hi2 : ∀ (s : Shared) (H : Hp) (C : Addr) (cl : List (Str × Addr)) (fp : List Addr), PI (X.blk s H scope (compEnvC scope cl C X.env) fp) t2 it2 wi2)
    (hg2 : ∀ (s : Shared) (H : Hp) (C : Addr) (cl : List (Str × Addr)) (fp : List Addr), PG (X.blk s H scope (compEnvC scope cl C X.env) fp) t2 g2) (ht2 : ∀ (s : Shared) (H : Hp) (C : Addr) (cl : List (Str × Addr)) (fp : List Addr), PTs (X.blk s H scope (compEnvC scope cl C X.env) fp) ifs2 tt2)
    (he : ∀ (s : Shared) (H : Hp) (C : Addr) (cl : List (Str × Addr)) (fp : List Addr), PE (X.blk s H scope (compEnvC scope cl C X.env) fp) elt te) (hs : ∀ x, foldedSetIterable it1 X.env x = pure x := by intro _; rfl) (hs2 : ∀ env x, foldedSetIterable it2 env x = pure x := by intros; rfl) :
    PE X (.ListComp elt [⟨t1, it1, ifs1, 0⟩, ⟨t2, it2, ifs2, 0⟩] scope pos) (tLc2 wi1 g1 tt1 wi2 g2 tt2 te (own.map (·.2)) vs1) := by
  refine ⟨fun pins s σ H Q I h => ?_⟩
  rw [eval_ListComp]
  have hfree : ∀ y ∈ scope.names, y.2 = .free → ∃ c, X.env.cells.lookup y.1 = some c := fun y hy e => by
    rcases ok.free y hy e with k | k
    · exact I.ok.has _ (.inl k)
    · exact I.ok.has _ (.inr k)
  refine wpAny_comprehension_free (use := none) rfl hs (closure_ok hfree) ok.kind (fun y hy e => by rw [ok.uniq y hy, e])
    (thn (hi.run pins s σ H _ I h) fun xv s1 hx => thn hx fun itv s2 h2 => ?_)
  obtain ⟨it, fp, tn, J, H2, e, I2, T, st2, f2, q⟩ := h2
  subst e
  refine wpAny_newObj_type (newEnv_comp ?_) (by show 0 ≤ sizeLine; decide)
  generalize hD : s2.heap.objs.size = D
  have hDn : H2 D = none := I2.hok.fresh (Nat.le_of_eq hD)
  obtain ⟨W, ⟨m0, w0⟩, turn⟩ := q D hDn
  generalize hs3 : ({ s2 with heap := s2.heap.push { cls := .type "list", data := .seq ([] : List Value).toArray } } : Shared) = s3
  have I3 : Inv X pins σ (upd H2 D (.lst [])) s3 := by
    rw [← hs3]
    refine I2.laid (t' := s2.toks) (fun b o e => Heap.get?_push_of_some _ e) (Nat.le_of_eq hD) ⟨Nat.zero_le _, [], 0, .nil, ?_⟩
    rw [← hD]
    exact Heap.get?_push_size _ rfl
  have h3 : s3.heap = s2.heap.push { cls := .type "list", data := .seq ([] : List Value).toArray } := by rw [← hs3]
  have sz : ∀ b ∈ fp, b < s2.heap.objs.size := fun b hb => by
    obtain ⟨o, e, _⟩ := T.obj _ _ st2 b hb
    exact Heap.lt_size e
  have f3 : ∀ b ∈ fp, FpOk X pins (upd H2 D (.lst [])) b ∧ b < s3.heap.objs.size := fun b hb => by
    have hlt := sz b hb
    refine ⟨⟨?_, (f2 b hb).2⟩, by rw [h3, Heap.size_push]; exact Nat.lt_succ_of_lt hlt⟩
    rw [upd_ne (by rw [← hD]; exact Nat.ne_of_lt hlt)]
    exact (f2 b hb).1
  have st3 : tn 0 s3.heap := T.keep _ _ _ st2 fun b _ o e => by rw [h3]; exact Heap.get?_push_of_some _ e
  have I4 := block_start I3 ok hN f3
  have pg := hg s3 (upd H2 D (.lst [])) s3.heap.objs.size (cellsFrom (s3.heap.objs.size + 1) scope.names (cloFrom X.env.cells scope.names [])) fp
  have pt := ht s3 (upd H2 D (.lst [])) s3.heap.objs.size (cellsFrom (s3.heap.objs.size + 1) scope.names (cloFrom X.env.cells scope.names [])) fp
  have pi2 := hi2 s3 (upd H2 D (.lst [])) s3.heap.objs.size (cellsFrom (s3.heap.objs.size + 1) scope.names (cloFrom X.env.cells scope.names [])) fp
  have pg2 := hg2 s3 (upd H2 D (.lst [])) s3.heap.objs.size (cellsFrom (s3.heap.objs.size + 1) scope.names (cloFrom X.env.cells scope.names [])) fp
  have pt2 := ht2 s3 (upd H2 D (.lst [])) s3.heap.objs.size (cellsFrom (s3.heap.objs.size + 1) scope.names (cloFrom X.env.cells scope.names [])) fp
  have pe := he s3 (upd H2 D (.lst [])) s3.heap.objs.size (cellsFrom (s3.heap.objs.size + 1) scope.names (cloFrom X.env.cells scope.names [])) fp
  show codeAny _ _ (.compStart (.ListComp elt [⟨t1, it1, ifs1, 0⟩, ⟨t2, it2, ifs2, 0⟩] scope pos) 0 (.ref it) (.ref D) (compEnvC scope (cellsFrom (s3.heap.objs.size + 1) scope.names (cloFrom X.env.cells scope.names [])) s3.heap.objs.size X.env)) (compPost (model X.prog X.w) X.A X.xe none (EP X pins σ Q) (.ref D) s3.heap.objs.size) { s3 with heap := pushCells (s3.heap.push { cls := .type "dict", data := .dict #[] }) scope.names }
  generalize hR : compPost (model X.prog X.w) X.A X.xe none (EP X pins σ Q) (.ref D) s3.heap.objs.size = RR
  have nfp : ∀ b ∈ fp, (upd H2 D (.lst [])) b = none := fun b hb => (f3 b hb).1.1
  generalize hce : compEnvC scope (cellsFrom (s3.heap.objs.size + 1) scope.names (cloFrom X.env.cells scope.names [])) s3.heap.objs.size X.env = ce at I4 pg pt pe pi2 pg2 pt2 ⊢
  have cL : ce.locals = s3.heap.objs.size := by subst hce; rfl
  generalize hH3 : upd H2 D (.lst []) = H3 at I3 I4 pg pt pe pi2 pg2 pt2 w0 nfp f3
  generalize hs4 : ({ s3 with heap := pushCells (s3.heap.push { cls := .type "dict", data := .dict #[] }) scope.names } : Shared) = s4 at I4 ⊢
  have st4 : tn 0 s4.heap := T.keep _ _ _ st3 fun b _ o e => by rw [← hs4]; exact pushCells_keeps _ _ _ _ (Heap.get?_push_of_some _ e)
  have stat : ∀ {σ' : St} {H' : Hp} {s' : Shared}, Inv (X.blk s3 H3 scope ce fp) [] σ' H' s' → (∀ b ∈ fp, H' b = none) → ∀ b ∈ fp, FpOk (X.blk s3 H3 scope ce fp) [] H' b := fun {σ' H' s'} I' hn b hb =>
    ⟨hn b hb, (I'.ok.exf b hb).1, I'.ok.exfs b hb, .inl hb, fun x c e => (I'.ok.exf b hb).2 x c e, fun p hp => absurd (show p ∈ ([] : List (Addr × Obj)) ++ [] from hp) (by simp)⟩
  have loop : codeAny (model X.prog X.w) X.A (.compLoop (.ListComp elt [⟨t1, it1, ifs1, 0⟩, ⟨t2, it2, ifs2, 0⟩] scope pos) 0 (.ref it) (.ref D) ce) RR s4 := by
    refine comp2_out (hs2 ce) (fun n s' => ∃ i H', Inv (X.blk s3 H3 scope ce fp) [] (wipe σ (own.map (·.2))) H' s' ∧ tn i s'.heap ∧ (∀ b ∈ fp, H' b = none) ∧ W i n H') ?_ m0 ⟨0, H3, I4, st4, nfp, w0⟩
    rintro n s5 ⟨i, H5, I5, st5, n5, w5⟩
    rcases turn i n H5 w5 with ⟨stop, qq⟩ | ⟨go, Nx, hNx, step⟩
    · have td := T.done (X.blk s3 H3 scope ce fp) rfl rfl rfl hc i [] s5 _ H5 NoE I5 (stat I5 n5) st5 stop
      refine thnF td fun r s6 ⟨hr, I6⟩ => ?_
      subst hr
      have I7 : Inv X pins σ H5 s6 := I3.call' (ch := fp) I6.os I6.base I6.hok I6.bare fun b hb => ⟨(f3 b hb).1.2.2.2.1, (f3 b hb).1.2.1, (f3 b hb).1.2.2.2.2.1, (f3 b hb).1.2.2.2.2.2⟩
      have nC : H5 s3.heap.objs.size = none := by
        have z : H5 ce.locals = none := I6.free
        rw [cL] at z
        exact z
      obtain ⟨m, hn, _⟩ := I6.loc
      have hn : s6.heap.Ns ce.locals m := hn
      rw [cL] at hn
      subst hR
      refine ⟨m, hn, fun h'' sb => ?_⟩
      obtain ⟨f0, f1, f2, f3, f4, f5⟩ := I3.fpOk (Nat.le_refl _) nC
      exact ⟨.ref D, H5, I7.turned (t' := s6.toks) (fun b o hb e => (sb.2 b hb).trans e) f0 f1 f3 f4 f5, rfl, qq⟩
    · have ti := T.item (X.blk s3 H3 scope ce fp) rfl rfl rfl hc i [] s5 _ H5 NoE I5 (stat I5 n5) st5 go
      refine thnF ti fun r s6 ⟨u, hr, h6⟩ => ?_
      subst hr
      refine thnF h6 fun _ s7 ⟨x, H7, I7, r7, y7, st7, n7⟩ => ?_
      have I7' := I7.pinned (stat I7 n7) (T.obj _ _ st7)
      refine thnF (pg.run _ s7 _ H7 x u _ I7' r7 (step x H7 y7)) fun _ s8 ⟨σ8, H8, I8, hw8, q8⟩ => ?_
      refine thnF (pt.run _ s8 σ8 H8 _ I8 q8) fun b s9 ⟨H9, I9, q9⟩ => ?_
      have fin : ∀ {s' : Shared} {H' : Hp} {σ' : St}, wipe σ' (own.map (·.2)) = wipe σ (own.map (·.2)) → σ'.length = σ8.length → Inv (X.blk s3 H3 scope ce fp) ([] ++ pinsAt fp s7.heap) σ' H' s' → Nx H' → ∃ m, m < n ∧ ∃ i H', Inv (X.blk s3 H3 scope ce fp) [] (wipe σ (own.map (·.2))) H' s' ∧ tn i s'.heap ∧ (∀ b ∈ fp, H' b = none) ∧ W i m H' := fun {s' H' σ'} hw' hl' I' nx => by
        obtain ⟨m', hm, w'⟩ := hNx H' nx
        have pin' : ∀ b ∈ fp, ∀ o, s7.heap.get? b = some o → s'.heap.get? b = some o ∧ H' b = none := fun b hb o e =>
          let z := I'.pin (b, o) (List.mem_append_right _ (List.mem_append_right _ (mem_pinsAt hb e)))
          ⟨z.1, z.2.1⟩
        have hl : (wipe σ (own.map (·.2))).length = σ'.length := by rw [← hw', wipe_length]
        refine ⟨m', hm, i + 1, H', (I'.unpinned (pins := [])).weak hl (fun j v e => ?_), T.keep _ _ _ st7 fun b hb o e => (pin' b hb o e).1, fun b hb => ?_, w'⟩
        · rw [← hw'] at e
          exact (wipe_some e).1
        · obtain ⟨o, e, _⟩ := T.obj _ _ st7 b hb
          exact (pin' b hb o e).2
      cases b with
      | false =>
        simp only [Bool.false_eq_true, if_false] at q9 ⊢
        exact fin hw8 rfl I9 q9
      | true =>
        simp only [if_true] at q9 ⊢
        refine thnF (pi2.run _ s9 σ8 H9 _ I9 q9) fun xv s10 hx10 => thnF hx10 fun itv s11 h11 => ?_
        obtain ⟨it', fp', tn', J', H11, e11, I11, T', st11, f11, W2, ⟨m2, w2⟩, turn2⟩ := h11
        subst e11
        refine ⟨fun Q E q => T'.self X.A 0 _ _ _ st11 q, fun R' hR' => ?_⟩
        have stat' : ∀ {H' : Hp}, (∀ b ∈ fp', H' b = none) → ∀ b ∈ fp', FpOk (X.blk s3 H3 scope ce fp) ([] ++ pinsAt fp s7.heap) H' b := fun hn b hb => ⟨hn b hb, (f11 b hb).2⟩
        refine comp2_in (fun n2 s' => ∃ i2 H', Inv (X.blk s3 H3 scope ce fp) ([] ++ pinsAt fp s7.heap) (wipe σ8 vs1) H' s' ∧ tn' i2 s'.heap ∧ (∀ b ∈ fp', H' b = none) ∧ W2 i2 n2 H') ?_ m2 ⟨0, H11, I11.weak (wipe_length _ _) (fun j v e => (wipe_some e).1), st11, fun b hb => (f11 b hb).1, w2⟩
        rintro n2 s12 ⟨i2, H12, I12, st12, n12, w12⟩
        rcases turn2 i2 n2 H12 w12 with ⟨stop, qq⟩ | ⟨go2, Nx2, hNx2, step2⟩
        · refine thnF (T'.done (X.blk s3 H3 scope ce fp) rfl rfl rfl hc i2 _ s12 _ H12 NoE I12 (stat' n12) st12 stop) fun r s13 ⟨hr, I13⟩ => ?_
          subst hr
          exact hR' s13 (fin (by rw [wipe_sub hv]; exact hw8) (wipe_length _ _) I13 qq)
        · refine thnF (T'.item (X.blk s3 H3 scope ce fp) rfl rfl rfl hc i2 _ s12 _ H12 NoE I12 (stat' n12) st12 go2) fun r s13 ⟨u2, hr, h13⟩ => ?_
          subst hr
          refine thnF h13 fun _ s14 ⟨x2, H14, I14, r14, y14, st14, n14⟩ => ?_
          have I14' := I14.pinned (stat' n14) (T'.obj _ _ st14)
          refine thnF (pg2.run _ s14 _ H14 x2 u2 _ I14' r14 (step2 x2 H14 y14)) fun _ s15 ⟨σ15, H15, I15, hw15, q15⟩ => ?_
          refine thnF (pt2.run _ s15 σ15 H15 _ I15 q15) fun b2 s16 ⟨H16, I16, q16⟩ => ?_
          have fin2 : ∀ {s' : Shared} {H' : Hp}, Inv (X.blk s3 H3 scope ce fp) (([] ++ pinsAt fp s7.heap) ++ pinsAt fp' s14.heap) σ15 H' s' → Nx2 H' → ∃ m, m < n2 ∧ ∃ i2 H', Inv (X.blk s3 H3 scope ce fp) ([] ++ pinsAt fp s7.heap) (wipe σ8 vs1) H' s' ∧ tn' i2 s'.heap ∧ (∀ b ∈ fp', H' b = none) ∧ W2 i2 m H' := fun {s' H'} I' nx => by
            obtain ⟨m', hm, w'⟩ := hNx2 H' nx
            have pin' : ∀ b ∈ fp', ∀ o, s14.heap.get? b = some o → s'.heap.get? b = some o ∧ H' b = none := fun b hb o e =>
              let z := I'.pin (b, o) (List.mem_append_right _ (List.mem_append_right _ (mem_pinsAt hb e)))
              ⟨z.1, z.2.1⟩
            have hl : (wipe σ8 vs1).length = σ15.length := by rw [← hw15, wipe_length]
            refine ⟨m', hm, i2 + 1, H', (I'.unpinned (pins := [] ++ pinsAt fp s7.heap)).weak hl (fun j v e => ?_), T'.keep _ _ _ st14 fun b hb o e => (pin' b hb o e).1, fun b hb => ?_, w'⟩
            · rw [← hw15] at e
              exact (wipe_some e).1
            · obtain ⟨o, e, _⟩ := T'.obj _ _ st14 b hb
              exact (pin' b hb o e).2
          cases b2 with
          | false =>
            simp only [Bool.false_eq_true, if_false] at q16 ⊢
            exact fin2 I16 q16
          | true =>
            simp only [if_true] at q16 ⊢
            refine thnF (pe.run _ s16 σ15 H16 _ I16 q16) fun z s17 ⟨yv, H17, I17, r17, acc, hD17, hz17, nx⟩ => ?_
            exact app_ok (X := X.blk s3 H3 scope ce fp) I17 hD17 hz17 r17 fun s18 I18 => fin2 I18 nx
  exact codeAny_compStart_list loop (T.self X.A 0 _ _ _ st4 loop)
end
end K45
set_option linter.all false
namespace K45
/-! ### one push along a walk -/
def pC (n : Nat) (F : Nat → Option Nat) (c0 : Nat) : Nat → Nat
  | 0 => c0
  | k + 1 => (F ((F (n + pC n F c0 k)).getD 0)).getD 0 - n
def pI (n : Nat) (F : Nat → Option Nat) (c0 k : Nat) : Nat := (F (n + pC n F c0 k)).getD 0
structure Pth (n : Nat) (e : Gr) (f : Fl) (S : Nat → Option Int) (F : Nat → Option Nat) (b c0 m : Nat) : Prop where
  lt : ∀ k, k ≤ m → pC n F c0 k < n ∧ pI n F c0 k < n
  col : ∀ k, k ≤ m → F (n + pC n F c0 k) = some (pI n F c0 k) ∧ ∃ w d, e (pI n F c0 k) (pC n F c0 k) = some w ∧ S (pI n F c0 k) = some d ∧ S (n + pC n F c0 k) = some (d + w)
  row : ∀ k, k < m → F (pI n F c0 k) = some (n + pC n F c0 (k + 1)) ∧ 0 < f (pI n F c0 k) (pC n F c0 (k + 1))
  last : F (pI n F c0 m) = none ∧ pI n F c0 m = b
  inj : ∀ k l, k ≤ m → l ≤ m → pI n F c0 k = pI n F c0 l → k = l
section
variable {n : Nat} {e : Gr} {f : Fl} {π : Nat → Int} {S : Nat → Option Int} {F : Nat → Option Nat} {τ : Nat → Nat} {b : Nat}
theorem pth_col (h : NW n e f (up (fun _ => none) b (some 0)) π S F τ) (hb : b < n) {c : Nat} {x : Int} (hc : c < n) (hx : S (n + c) = some x) :
    ∃ i w d, F (n + c) = some i ∧ i < n ∧ e i c = some w ∧ S i = some d ∧ x = d + w ∧ τ i < τ (n + c) := by
  rcases h.att (n + c) x (by omega) hx with ⟨h1, _⟩ | ⟨u, g, d, h1, h2, h3, h4, h5, h6⟩
  · rw [up_ne (by omega)] at h1; cases h1
  · by_cases cu : u < n
    · rw [nw_f cu] at h3
      exact ⟨u, g, d, h1, cu, h3, h4, h5, h6⟩
    · unfold nw at h3
      rw [if_neg cu, if_neg (fun z => by omega)] at h3
      cases h3
theorem pth_row (h : NW n e f (up (fun _ => none) b (some 0)) π S F τ) {i : Nat} {d : Int} (hi : i < n) (hd : S i = some d) :
    (F i = none ∧ i = b) ∨ ∃ j x, F i = some (n + j) ∧ j < n ∧ 0 < f i j ∧ S (n + j) = some x ∧ τ (n + j) < τ i := by
  rcases h.att i d (by omega) hd with ⟨h1, h2⟩ | ⟨u, g, x, h1, h2, h3, h4, h5, h6⟩
  · refine .inl ⟨h2, ?_⟩
    by_cases c : i = b
    · exact c
    · rw [up_ne c] at h1; cases h1
  · right
    by_cases cu : u < n
    · unfold nw at h3
      rw [if_pos cu, if_neg (by omega)] at h3
      cases h3
    · unfold nw at h3
      rw [if_neg cu] at h3
      by_cases cv : i < n ∧ 0 < f i (u - n)
      · have e1 : n + (u - n) = u := by omega
        exact ⟨u - n, x, by rw [e1]; exact h1, by omega, cv.2, by rw [e1]; exact h4, by rw [e1]; exact h6⟩
      · rw [if_neg cv] at h3; cases h3
theorem pth_all (h : NW n e f (up (fun _ => none) b (some 0)) π S F τ) (hb : b < n) {c0 : Nat} {x0 : Int} (hc : c0 < n) (hx : S (n + c0) = some x0) :
    ∀ k, (∀ l, l < k → F (pI n F c0 l) ≠ none) → pC n F c0 k < n ∧ (∃ x, S (n + pC n F c0 k) = some x) ∧ τ (n + pC n F c0 k) + k ≤ τ (n + c0)
  | 0, _ => ⟨hc, ⟨x0, hx⟩, Nat.le_refl _⟩
  | k + 1, hk => by
    obtain ⟨a1, ⟨x, a2⟩, a3⟩ := pth_all h hb hc hx k fun l hl => hk l (by omega)
    obtain ⟨i, w, d, c1, c2, c3, c4, c5, c6⟩ := pth_col h hb a1 a2
    have ei : pI n F c0 k = i := by unfold pI; rw [c1]; rfl
    rcases pth_row h c2 c4 with ⟨r1, _⟩ | ⟨j, y, r1, r2, r3, r4, r5⟩
    · exact absurd (by rw [ei]; exact r1) (hk k (Nat.lt_succ_self k))
    · have ec : pC n F c0 (k + 1) = j := by
        show (F (pI n F c0 k)).getD 0 - n = j
        rw [ei, r1]
        show n + j - n = j
        omega
      rw [ec]
      exact ⟨r2, ⟨y, r4⟩, by omega⟩
theorem pth_of (h : NW n e f (up (fun _ => none) b (some 0)) π S F τ) (hb : b < n) {c0 : Nat} {x0 : Int} (hc : c0 < n) (hx : S (n + c0) = some x0) : ∃ m, Pth n e f S F b c0 m := by
  have ex : ∃ m, F (pI n F c0 m) = none := Classical.byContradiction fun z => by
    have z' : ∀ l, F (pI n F c0 l) ≠ none := fun l q => z ⟨l, q⟩
    have := (pth_all h hb hc hx (τ (n + c0) + 1) fun l _ => z' l).2.2
    omega
  obtain ⟨m0, hm0⟩ := ex
  obtain ⟨m, hm, _, hmin⟩ := least (fun k => F (pI n F c0 k) = none) m0 hm0
  have A : ∀ k, k ≤ m → pC n F c0 k < n ∧ (∃ x, S (n + pC n F c0 k) = some x) ∧ τ (n + pC n F c0 k) + k ≤ τ (n + c0) := fun k hk => pth_all h hb hc hx k fun l hl => hmin l (by omega)
  have B : ∀ k, k ≤ m → pI n F c0 k < n ∧ F (n + pC n F c0 k) = some (pI n F c0 k) ∧ τ (pI n F c0 k) < τ (n + pC n F c0 k) ∧ ∃ w d, e (pI n F c0 k) (pC n F c0 k) = some w ∧ S (pI n F c0 k) = some d ∧ S (n + pC n F c0 k) = some (d + w) := fun k hk => by
    obtain ⟨a1, ⟨x, a2⟩, a3⟩ := A k hk
    obtain ⟨i, w, d, c1, c2, c3, c4, c5, c6⟩ := pth_col h hb a1 a2
    have ei : pI n F c0 k = i := by unfold pI; rw [c1]; rfl
    rw [ei]
    exact ⟨c2, c1, c6, w, d, c3, c4, by rw [a2, c5]⟩
  have Cc : ∀ k, k < m → F (pI n F c0 k) = some (n + pC n F c0 (k + 1)) ∧ 0 < f (pI n F c0 k) (pC n F c0 (k + 1)) ∧ τ (n + pC n F c0 (k + 1)) < τ (pI n F c0 k) := fun k hk => by
    obtain ⟨b1, _, _, w, d, _, b2, _⟩ := B k (by omega)
    rcases pth_row h b1 b2 with ⟨r1, _⟩ | ⟨j, y, r1, r2, r3, r4, r5⟩
    · exact absurd r1 (hmin k hk)
    · have ec : pC n F c0 (k + 1) = j := by
        show (F (pI n F c0 k)).getD 0 - n = j
        rw [r1]
        show n + j - n = j
        omega
      rw [ec]
      exact ⟨r1, r3, r5⟩
  have dec : ∀ k l, k < l → l ≤ m → τ (pI n F c0 l) < τ (pI n F c0 k) := fun k l hkl => by
    induction l with
    | zero => omega
    | succ l ih =>
      intro hl
      have h1 := (Cc l (by omega)).2.2
      have h2 := (B (l + 1) hl).2.2.1
      by_cases c : k = l
      · subst c; omega
      · have := ih (by omega) (by omega); omega
  refine ⟨m, fun k hk => ⟨(A k hk).1, (B k hk).1⟩, fun k hk => ⟨(B k hk).2.1, (B k hk).2.2.2⟩, fun k hk => ⟨(Cc k hk).1, (Cc k hk).2.1⟩, ⟨hm, ?_⟩, fun k l hk hl q => ?_⟩
  · obtain ⟨b1, _, _, w, d, _, b2, _⟩ := B m (Nat.le_refl m)
    rcases pth_row h b1 b2 with ⟨_, r⟩ | ⟨j, y, r1, _⟩
    · exact r
    · rw [hm] at r1; cases r1
  · by_cases c : k < l
    · have := dec k l c hl; rw [q] at this; omega
    · by_cases c2 : l < k
      · have := dec l k c2 hk; rw [q] at this; omega
      · omega
end
/-! ### the flows behind a push -/
def adv (f : Fl) (i j : Nat) (q : Int) : Fl := up f i (up (f i) j (f i j + q))
theorem adv_at {f : Fl} {i j : Nat} {q : Int} (x y : Nat) : adv f i j q x y = f x y + if x = i ∧ y = j then q else 0 := by
  unfold adv
  by_cases hx : x = i
  · subst hx
    rw [up_same]
    by_cases hy : y = j
    · subst hy; rw [up_same, if_pos ⟨rfl, rfl⟩]
    · rw [up_ne hy, if_neg (fun z => hy z.2), Int.add_zero]
  · rw [up_ne hx, if_neg (fun z => hx z.1), Int.add_zero]
theorem sum_ite {n j : Nat} {q : Int} (hj : j < n) : sumN n (fun y => if y = j then q else 0) = q := by
  have h := sumN_up (n := n) (j := j) (f := fun _ => 0) (v := q) hj
  have e : sumN n (fun _ => (0 : Int)) = 0 := sumN_zero fun _ _ => rfl
  rw [e] at h
  have e2 : sumN n (fun y => if y = j then q else 0) = sumN n (up (fun _ => 0) j q) := sumN_congr fun i _ => rfl
  rw [e2, h]
  omega
theorem adv_row {n : Nat} {f : Fl} {i j : Nat} {q : Int} (hj : j < n) (x : Nat) : sumN n (adv f i j q x) = sumN n (f x) + if x = i then q else 0 := by
  have e : sumN n (adv f i j q x) = sumN n (fun y => f x y + if x = i ∧ y = j then q else 0) := sumN_congr fun y _ => adv_at x y
  rw [e, sumN_add]
  congr 1
  by_cases hx : x = i
  · rw [if_pos hx]
    exact (sumN_congr fun y _ => by simp [hx]).trans (sum_ite (q := q) hj)
  · rw [if_neg hx]
    exact sumN_zero fun y _ => by simp [hx]
theorem adv_col {n : Nat} {f : Fl} {i j : Nat} {q : Int} (hi : i < n) (y : Nat) : sumN n (fun x => adv f i j q x y) = sumN n (fun x => f x y) + if y = j then q else 0 := by
  have e : sumN n (fun x => adv f i j q x y) = sumN n (fun x => f x y + if x = i ∧ y = j then q else 0) := sumN_congr fun x _ => adv_at x y
  rw [e, sumN_add]
  congr 1
  by_cases hy : y = j
  · rw [if_pos hy]
    exact (sumN_congr fun x _ => by simp [hy]).trans (sum_ite (q := q) hi)
  · rw [if_neg hy]
    exact sumN_zero fun x _ => by simp [hy]
def pa (I : Nat → Nat) (t : Nat) : Nat := I (t / 2)
def pb (C : Nat → Nat) (t : Nat) : Nat := C ((t + 1) / 2)
def fpush (f : Fl) (I C : Nat → Nat) (q : Int) : Nat → Fl
  | 0 => f
  | t + 1 => adv (fpush f I C q t) (pa I t) (pb C t) (if t % 2 = 0 then q else -q)
theorem fpush_sums {n m : Nat} {f : Fl} {I C : Nat → Nat} {q : Int} (h : ∀ k, k ≤ m → C k < n ∧ I k < n) : ∀ k, k ≤ m →
    (∀ x, sumN n (fpush f I C q (2 * k + 1) x) = sumN n (f x) + if x = I k then q else 0) ∧ ∀ y, sumN n (fun x => fpush f I C q (2 * k + 1) x y) = sumN n (fun x => f x y) + if y = C 0 then q else 0
  | 0, _ => ⟨fun x => adv_row (h 0 (Nat.zero_le m)).1 x, fun y => adv_col (h 0 (Nat.zero_le m)).2 y⟩
  | k + 1, hk => by
    obtain ⟨a, b⟩ := fpush_sums (f := f) (q := q) h k (by omega)
    have e1 : fpush f I C q (2 * (k + 1) + 1) = adv (adv (fpush f I C q (2 * k + 1)) (I k) (C (k + 1)) (-q)) (I (k + 1)) (C (k + 1)) q := by
      have s1 : fpush f I C q (2 * (k + 1) + 1) = adv (fpush f I C q (2 * k + 1 + 1)) (pa I (2 * k + 1 + 1)) (pb C (2 * k + 1 + 1)) (if (2 * k + 1 + 1) % 2 = 0 then q else -q) := rfl
      have s2 : fpush f I C q (2 * k + 1 + 1) = adv (fpush f I C q (2 * k + 1)) (pa I (2 * k + 1)) (pb C (2 * k + 1)) (if (2 * k + 1) % 2 = 0 then q else -q) := rfl
      rw [s1, s2, if_pos (show (2 * k + 1 + 1) % 2 = 0 by omega), if_neg (show ¬ (2 * k + 1) % 2 = 0 by omega)]
      unfold pa pb
      rw [show (2 * k + 1 + 1) / 2 = k + 1 by omega, show (2 * k + 1) / 2 = k by omega, show (2 * k + 1 + 1 + 1) / 2 = k + 1 by omega]
    have h1 := h k (by omega)
    have h2 := h (k + 1) hk
    rw [e1]
    refine ⟨fun x => ?_, fun y => ?_⟩
    · rw [adv_row h2.1, adv_row h2.1, a]
      split <;> split <;> omega
    · rw [adv_col h2.2, adv_col h1.2, b]
      split <;> split <;> omega
theorem fpush_lo {m : Nat} {f : Fl} {I C : Nat → Nat} {q : Int} (hq : 0 ≤ q) (inj : ∀ k l, k ≤ m → l ≤ m → I k = I l → k = l) : ∀ t, t ≤ 2 * m + 1 → ∀ x y,
    (f x y ≤ fpush f I C q t x y ∨ ∃ k, k < m ∧ 2 * k + 1 < t ∧ x = I k ∧ y = C (k + 1) ∧ f x y - q ≤ fpush f I C q t x y)
  | 0, _, x, y => .inl (Int.le_refl _)
  | t + 1, ht, x, y => by
    have ih := fpush_lo (f := f) (C := C) hq inj t (by omega) x y
    have e : fpush f I C q (t + 1) x y = fpush f I C q t x y + if x = pa I t ∧ y = pb C t then (if t % 2 = 0 then q else -q) else 0 := adv_at x y
    rw [e]
    by_cases hxy : x = pa I t ∧ y = pb C t
    · rw [if_pos hxy]
      by_cases hp : t % 2 = 0
      · rw [if_pos hp]
        rcases ih with ih | ⟨k, k1, k2, k3, k4, k5⟩
        · exact .inl (by omega)
        · exact .inr ⟨k, k1, by omega, k3, k4, by omega⟩
      · rw [if_neg hp]
        rcases ih with ih | ⟨k, k1, k2, k3, k4, k5⟩
        · refine .inr ⟨t / 2, by omega, by omega, hxy.1, ?_, by omega⟩
          rw [hxy.2]
          unfold pb
          rw [show (t + 1) / 2 = t / 2 + 1 by omega]
        · exfalso
          have : I k = I (t / 2) := by rw [← k3]; exact hxy.1
          have := inj k (t / 2) (by omega) (by omega) this
          omega
    · rw [if_neg hxy]
      rcases ih with ih | ⟨k, k1, k2, k3, k4, k5⟩
      · exact .inl (by omega)
      · exact .inr ⟨k, k1, by omega, k3, k4, by omega⟩
theorem fpush_pos {f : Fl} {I C : Nat → Nat} {q : Int} (hq : 0 ≤ q) : ∀ t x y, 0 < fpush f I C q t x y → 0 < f x y ∨ ∃ k, 2 * k < t ∧ x = I k ∧ y = C k
  | 0, x, y, h => .inl h
  | t + 1, x, y, h => by
    have e : fpush f I C q (t + 1) x y = fpush f I C q t x y + if x = pa I t ∧ y = pb C t then (if t % 2 = 0 then q else -q) else 0 := adv_at x y
    rw [e] at h
    have old : 0 < fpush f I C q t x y → 0 < f x y ∨ ∃ k, 2 * k < t + 1 ∧ x = I k ∧ y = C k := fun z => (fpush_pos hq t x y z).imp id fun ⟨k, a, b⟩ => ⟨k, by omega, b⟩
    by_cases hxy : x = pa I t ∧ y = pb C t
    · rw [if_pos hxy] at h
      by_cases hp : t % 2 = 0
      · refine .inr ⟨t / 2, by omega, hxy.1, ?_⟩
        rw [hxy.2]
        unfold pb
        rw [show (t + 1) / 2 = t / 2 by omega]
      · rw [if_neg hp] at h
        exact old (by omega)
    · rw [if_neg hxy] at h
      exact old (by omega)
/-- the potentials behind a push -/
theorem push_opt {n : Nat} {e : Gr} {f f' : Fl} {U V : Nat → Int} {B : Int} {b : Nat} {S : Nat → Option Int} {F : Nat → Option Nat} {τ : Nat → Nat} (h : Opt n e f U V) (hw : NW n e f (up (fun _ => none) b (some 0)) (npi n U V B) S F τ)
    (nn : ∀ i j, i < n → j < n → 0 ≤ f' i j) (hp : ∀ i j, i < n → j < n → 0 < f' i j → 0 < f i j ∨ ∃ w d, e i j = some w ∧ S i = some d ∧ S (n + j) = some (d + w)) : ∃ U' V', Opt n e f' U' V' := by
  obtain ⟨M, hM0, hM⟩ := bound_of n fun j => match S (n + j) with
    | some c => V j + B - c
    | none => 0
  refine ⟨fun i => match S i with | some c => c | none => U i + B - M, fun j => match S (n + j) with | some c => c | none => V j + B - M, nn, fun i j w hi hj he => ?_, fun i j hi hj hf => ?_⟩
  · have ho := h.up i j w hi hj he
    cases ci : S i with
    | some c =>
      obtain ⟨d, h1, h2⟩ := hw.fwd i j w c hi hj he ci
      simp only [h1]
      exact h2
    | none =>
      have hm := hM j hj
      cases cj : S (n + j) with
      | some d =>
        simp only [cj] at hm ⊢
        omega
      | none =>
        simp only [cj] at hm ⊢
        omega
  · rcases hp i j hi hj hf with hf | ⟨w, d, h1, h2, h3⟩
    · obtain ⟨w, h1, h2⟩ := h.eq i j hi hj hf
      refine ⟨w, h1, ?_⟩
      cases cj : S (n + j) with
      | some d =>
        obtain ⟨c, c1, c2⟩ := hw.bwd i j w d hi hj hf h1 cj
        obtain ⟨d', c3, c4⟩ := hw.fwd i j w c hi hj h1 c1
        rw [cj] at c3
        cases c3
        simp only [c1]
        omega
      | none =>
        cases ci : S i with
        | some c =>
          obtain ⟨d', c3, c4⟩ := hw.fwd i j w c hi hj h1 ci
          rw [cj] at c3; cases c3
        | none =>
          show V j + B - M = U i + B - M + w
          omega
    · exact ⟨w, h1, by simp only [h2, h3]⟩
end K45
set_option linter.all false
namespace K45
theorem sumN_lt1 : ∀ {n : Nat} {f g : Nat → Int} {b : Nat}, (∀ i, i < n → f i ≤ g i) → b < n → f b < g b → sumN n f < sumN n g
  | 0, _, _, _, _, hb, _ => absurd hb (Nat.not_lt_zero _)
  | n + 1, f, g, b, h, hb, hl => by
    show sumN n f + f n < sumN n g + g n
    by_cases c : b = n
    · subst c
      have := sumN_le (n := b) (f := f) (g := g) fun i hi => h i (by omega)
      omega
    · have := sumN_lt1 (n := n) (f := f) (g := g) (b := b) (fun i hi => h i (by omega)) (by omega) hl
      have := h n (Nat.lt_succ_self n)
      omega
/-- a walk comes to a column that wants more -/
theorem ends_ex {n : Nat} {e : Gr} {f : Fl} {r wt : Nat → Int} {π : Nat → Int} {S : Nat → Option Int} {F : Nat → Option Nat} {τ : Nat → Nat} {b : Nat} (hd : ∀ i, i < n → e i i = some 0) (nn : ∀ i j, i < n → j < n → 0 ≤ f i j)
    (hpos : ∀ i j, i < n → j < n → 0 < f i j → ∃ w, e i j = some w) (h : NW n e f (up (fun _ => none) b (some 0)) π S F τ) (hb : b < n) (hr : ∀ i, i < n → 0 ≤ r i) (hrow : ∀ i, i < n → sumN n (f i) ≤ r i) (hlt : sumN n (f b) < r b)
    (hcol : ∀ j, j < n → sumN n (fun i => f i j) + wt j = r j) : ∃ j, j < n ∧ S (n + j) ≠ none ∧ 0 < wt j := by
  refine Classical.byContradiction fun z => ?_
  have hz : ∀ j, j < n → S (n + j) ≠ none → r j ≤ sumN n (fun i => f i j) := fun j hj hs => by
    have := hcol j hj
    have : ¬ 0 < wt j := fun q => z ⟨j, hj, hs, q⟩
    omega
  have s1 : sumN n (fun j => if S (n + j) = none then 0 else sumN n (fun i => f i j)) ≤ sumN n (fun i => if S i = none then 0 else sumN n (f i)) := by
    have e1 : sumN n (fun j => if S (n + j) = none then 0 else sumN n (fun i => f i j)) = sumN n (fun j => sumN n (fun i => if S (n + j) = none then 0 else f i j)) := sumN_congr fun j _ => by
      by_cases c : S (n + j) = none
      · rw [if_pos c]; exact (sumN_zero fun i _ => if_pos c).symm
      · rw [if_neg c]; exact sumN_congr fun i _ => (if_neg c).symm
    have e2 : sumN n (fun i => if S i = none then 0 else sumN n (f i)) = sumN n (fun i => sumN n (fun j => if S i = none then 0 else f i j)) := sumN_congr fun i _ => by
      by_cases c : S i = none
      · rw [if_pos c]; exact (sumN_zero fun i _ => if_pos c).symm
      · rw [if_neg c]; exact sumN_congr fun i _ => (if_neg c).symm
    rw [e1, e2, sumN_swap (f := fun j i => if S (n + j) = none then 0 else f i j)]
    refine sumN_le fun i hi => sumN_le fun j hj => ?_
    have h0 := nn i j hi hj
    by_cases c : S (n + j) = none
    · rw [if_pos c]; split <;> omega
    · rw [if_neg c]
      by_cases c2 : S i = none
      · rw [if_pos c2]
        refine Classical.byContradiction fun q => ?_
        obtain ⟨w, hw⟩ := hpos i j hi hj (by omega)
        obtain ⟨d, hd⟩ := Option.ne_none_iff_exists'.mp c
        obtain ⟨c', hc', _⟩ := h.bwd i j w d hi hj (by omega) hw hd
        rw [c2] at hc'; cases hc'
      · rw [if_neg c2]; exact Int.le_refl _
  have s2 : sumN n (fun i => if S i = none then 0 else sumN n (f i)) < sumN n (fun i => if S i = none then 0 else r i) := by
    refine sumN_lt1 (b := b) (fun i hi => ?_) hb ?_
    · have := hrow i hi
      split <;> omega
    · obtain ⟨c, hc, _⟩ := h.mono b 0 up_same
      rw [if_neg (by rw [hc]; simp), if_neg (by rw [hc]; simp)]
      exact hlt
  have s3 : sumN n (fun i => if S i = none then 0 else r i) ≤ sumN n (fun j => if S (n + j) = none then 0 else sumN n (fun i => f i j)) := by
    refine sumN_le fun i hi => ?_
    by_cases c : S i = none
    · rw [if_pos c]
      split
      · exact Int.le_refl 0
      · exact sumN_nonneg fun k hk => nn k i hk hi
    · rw [if_neg c]
      obtain ⟨d, hd'⟩ := Option.ne_none_iff_exists'.mp c
      obtain ⟨d', h1, _⟩ := h.fwd i i 0 d hi hi (hd i hi) hd'
      rw [if_neg (by rw [h1]; simp)]
      exact hz i hi (by rw [h1]; simp)
  omega
/-- a dealing under way: rows below b are dealt, row b in part -/
structure Deal (n : Nat) (e : Gr) (r : Nat → Int) (f : Fl) (wt : Nat → Int) : Prop where
  nn : ∀ i j, i < n → j < n → 0 ≤ f i j
  row : ∀ i, i < n → sumN n (f i) ≤ r i
  col : ∀ j, j < n → sumN n (fun i => f i j) + wt j = r j
  wnn : ∀ j, j < n → 0 ≤ wt j
  opt : ∃ U V, Opt n e f U V
/-- a push keeps all that -/
theorem push_deal {n : Nat} {e : Gr} {r : Nat → Int} {f : Fl} {wt : Nat → Int} {U V : Nat → Int} {B : Int} {S : Nat → Option Int} {F : Nat → Option Nat} {τ : Nat → Nat} {b c0 m : Nat} {q : Int} (D : Deal n e r f wt) (ho : Opt n e f U V) (hb : b < n)
    (hw : NW n e f (up (fun _ => none) b (some 0)) (npi n U V B) S F τ) (P : Pth n e f S F b c0 m) (q0 : 0 < q) (ql : q ≤ r b - sumN n (f b)) (qw : q ≤ wt c0) (qf : ∀ k, k < m → q ≤ f (pI n F c0 k) (pC n F c0 (k + 1))) :
    Deal n e r (fpush f (pI n F c0) (pC n F c0) q (2 * m + 1)) (up wt c0 (wt c0 - q)) ∧ ∀ i, i < n → sumN n (fpush f (pI n F c0) (pC n F c0) q (2 * m + 1) i) = sumN n (f i) + if i = b then q else 0 := by
  obtain ⟨hr, hc⟩ := fpush_sums (f := f) (q := q) P.lt m (Nat.le_refl m)
  have hC0 : pC n F c0 0 = c0 := rfl
  rw [P.last.2] at hr
  have nn : ∀ i j, i < n → j < n → 0 ≤ fpush f (pI n F c0) (pC n F c0) q (2 * m + 1) i j := fun i j hi hj => by
    have h0 := D.nn i j hi hj
    rcases fpush_lo (f := f) (I := pI n F c0) (C := pC n F c0) (q := q) (by omega) P.inj (2 * m + 1) (Nat.le_refl _) i j with h | ⟨k, k1, k2, k3, k4, k5⟩
    · omega
    · have := qf k k1
      rw [← k3, ← k4] at this
      omega
  refine ⟨⟨nn, fun i hi => ?_, fun j hj => ?_, fun j hj => ?_, ?_⟩, fun i hi => hr i⟩
  · rw [hr i]
    have := D.row i hi
    by_cases c : i = b
    · subst c; rw [if_pos rfl]; omega
    · rw [if_neg c]; omega
  · rw [hc j, hC0]
    have := D.col j hj
    by_cases c : j = c0
    · subst c; rw [if_pos rfl, up_same]; omega
    · rw [if_neg c, up_ne c]; omega
  · have := D.wnn j hj
    by_cases c : j = c0
    · subst c; rw [up_same]; omega
    · rw [up_ne c]; exact this
  · refine push_opt ho hw nn fun i j hi hj hf => ?_
    rcases fpush_pos (f := f) (I := pI n F c0) (C := pC n F c0) (q := q) (by omega) (2 * m + 1) i j hf with h | ⟨k, k1, k2, k3⟩
    · exact .inl h
    · obtain ⟨_, w, d, h1, h2, h3⟩ := P.col k (by omega)
      rw [← k2, ← k3] at h1
      rw [← k2] at h2
      rw [← k3] at h3
      exact .inr ⟨w, d, h1, h2, h3⟩
end K45
set_option Elab.async false
set_option linter.all false
set_option maxRecDepth 100000
set_option maxHeartbeats 200000
namespace K45
open PySem PySem.Spec PyProof.Rows L2
abbrev s_net_push : Stmt := topS 33
theorem sc_net_push : FnScope ["entries", "flows", "wanted", "begin", "left", "rows", "columns", "row_from", "column_from", "two", "ends", "walk", "one", "many", "at", "high"] ["entries", "flows", "wanted", "begin", "left"] (defScope s_net_push) := ⟨rfl, rfl, rfl, by decide +kernel, rfl, by decide +kernel, by decide +kernel⟩
def t_net_push (K : PySem.W.Frag) (sp_net_walks : Sp) : TS := (tSeq (tAsg (tOp rRep (tLst (tCons (tC .non) tNil)) (tCB (cLen K) (tCons (tVar 0) tNil))) (gName 5))
    (tSeq (tAsg (tOp rRep (tLst (tCons (tC .non) tNil)) (tCB (cLen K) (tCons (tVar 0) tNil))) (gName 6))
    (tSeq (tAsg (tC (.int 0)) (gSub (tVar 5) (tVar 3) rSetL))
    (tSeq (tAsg (tCall sp_net_walks [] E0 (tCons (tVar 0) (tCons (tVar 1) (tCons (tVar 5) (tCons (tVar 6) tNil))))) (gTup K 2 (gCons (gName 7) (gCons (gName 8) gNil))))
    (tSeq (tAsg (tLc (iEnum K (tCons (tVar 6) tNil)) (gTup K 2 (gCons (gName 9) (gCons (gName 15) gNil))) (tAnd (tTest (tOp kNotN (tVar 15) (tC .non))) (tTest (tOp rGt (tOp (rIx K) (tVar 2) (tVar 9)) (tC (.int 0))))) (tVar 9) [9, 15]) (gName 10))
    (tSeq (tIfS (tNot (tTru K (tVar 10))) (tRet (tC (.int 0))) tNext)
    (tSeq (tAsg (tLst (tCons (tTup (tCons (tOp (rIx K) (tVar 8) (tOp (rIx K) (tVar 10) (tC (.int 0)))) (tCons (tOp (rIx K) (tVar 10) (tC (.int 0))) tNil))) tNil)) (gName 11))
    (tSeq (tWhile (tTest (tOp kNotN (tOp (rIx K) (tVar 7) (tOp (rIx K) (tOp (rIx K) (tVar 11) (tUn (rU fun i => .int (-i)) (tC (.int 1)))) (tC (.int 0)))) (tC .non))) (tSeq (tAsg (tOp (rIx K) (tOp (rIx K) (tVar 11) (tUn (rU fun i => .int (-i)) (tC (.int 1)))) (tC (.int 0))) (gName 12))
    (tSeq (tAsg (tOp (rIx K) (tVar 7) (tVar 12)) (gName 9))
    (tSeq (tDrop (tBM K "list" rAppend (tVar 11) (tCons (tTup (tCons (tVar 12) (tCons (tVar 9) tNil))) tNil)))
    (tDrop (tBM K "list" rAppend (tVar 11) (tCons (tTup (tCons (tOp (rIx K) (tVar 8) (tVar 9)) (tCons (tVar 9) tNil))) tNil)))))))
    (tSeq (tAsg (tCB (rMin K) (tCons (tOp rCat (tLst (tCons (tVar 4) (tCons (tOp (rIx K) (tVar 2) (tOp (rIx K) (tVar 10) (tC (.int 0)))) tNil))) (tLc (iList K (tSl2 K (tVar 11))) (gTup K 2 (gCons (gName 12) (gCons (gName 9) gNil))) tYes (tOp (rIx K) (tOp (rIx K) (tVar 1) (tVar 12)) (tVar 9)) [12, 9])) tNil)) (gName 13))
    (tSeq (tFor (iEnum K (tCons (tVar 11) tNil)) (gTup K 2 (gCons (gName 14) (gCons (gTup K 2 (gCons (gName 12) (gCons (gName 9) gNil))) gNil))) (tAugS (tOp (rIx K) (tVar 1) (tVar 12)) (tVar 9) (tIf (tTest (tOp rEq (tOp rMod (tVar 14) (tC (.int 2))) (tC (.int 0)))) (tVar 13) (tUn (rU fun i => .int (-i)) (tVar 13))) (rGetL K) (ipI fun i j => i + j) rSetL))
    (tSeq (tAugS (tVar 2) (tOp (rIx K) (tVar 10) (tC (.int 0))) (tVar 13) (rGetL K) (ipI fun i j => i - j) rSetL)
    (tRet (tVar 13)))))))))))))
theorem d_net_push {P : Program} {w : World} {K : PySem.W.Frag} {mg : Str → Option Value} {base : Heap} (B : Bif mg) {sp_net_walks : Sp} (c_net_walks : Cal P w K mg base 2 "net_walks" ["entries", "flows", "rows", "columns"] sp_net_walks) {f : Addr} {cdv : Value} {A : Around} {outer : List Env} {s : Shared} {H : Hp} {E : XK} (hr : Room 2 (A.deeper (envOfC "net_push" (defScope s_net_push) s.heap.objs.size f cdv))) :
    PSs (cxOf CX0 P w K mg base ["entries", "flows", "wanted", "begin", "left", "rows", "columns", "row_from", "column_from", "two", "ends", "walk", "one", "many", "at", "high"] "net_push" (defScope s_net_push) f cdv A outer s H E).nox (defBody s_net_push) (t_net_push K sp_net_walks) := by
  have nd := sc_net_push.nd
  exact (pss_cons (ps_set (i := 5) nd rfl (Or.inl rfl) (pe_op op_rep (pe_lst (pa_cons pe_non pa_nil)) (pe_callB k_len (by rfl) B.len_ (by decide +kernel) (pa_cons (pv 0) pa_nil))))
      (pss_cons (ps_set (i := 6) nd rfl (Or.inl rfl) (pe_op op_rep (pe_lst (pa_cons pe_non pa_nil)) (pe_callB k_len (by rfl) B.len_ (by decide +kernel) (pa_cons (pv 0) pa_nil))))
      (pss_cons (ps_asg pe_int (pg_sub (pv 5) (pv 3) set_list))
      (pss_cons (ps_asg (pe_cal c_net_walks hr (by decide) (by rfl) (pa_cons (pv 0) (pa_cons (pv 1) (pa_cons (pv 5) (pa_cons (pv 6) pa_nil))))) (pg_tup rfl (pgs_cons (pg_name (i := 7) nd rfl (Or.inl rfl)) (pgs_cons (pg_name (i := 8) nd rfl (Or.inl rfl)) pgs_nil))))
      (pss_cons (ps_setLc (i := 10) (own := [("two", 9), ("high", 15)]) rfl nd rfl rfl (sw_true rfl rfl rfl (by decide +kernel)) (pi_enum (by rfl) B.enumerate_ (pa_cons (pv 6) pa_nil)) (blkOk_by (own := [("two", 9), ("high", 15)]) (by kernel_rfl)) (fun _ _ _ _ _ => (pg_tup rfl (pgs_cons (pg_name (i := 9) nd rfl (Or.inl rfl)) (pgs_cons (pg_name (i := 15) nd rfl (Or.inl rfl)) pgs_nil)))) (fun _ _ _ _ _ => (pts_one (PW.pt (pw_and (pt_cmpR k_notN (pv 15) pe_non (nomark _)) (pw_and1 (pt_cmpR k_gt (pe_ix ix_seq (pv 2) (pv 9) (fun _ _ => rfl)) pe_int (nomark _))))))) (fun _ _ _ _ _ => (pv 9)))
      (pss_cons (ps_if (pt_not (pt_truth (pv 10) (by intro _; rfl))) (pss_one (ps_ret pe_int)) pss_nil)
      (pss_cons (ps_set (i := 11) nd rfl (Or.inl rfl) (pe_lst (pa_cons (pe_tup (pa_cons (pe_ix ix_seq (pv 8) (pe_ix ix_seq (pv 10) pe_int (fun _ _ => rfl)) (fun _ _ => rfl)) (pa_cons (pe_ix ix_seq (pv 10) pe_int (fun _ _ => rfl)) pa_nil))) pa_nil)))
      (pss_cons (ps_while PassesOwn.never (pt_cmpR k_notN (pe_ix ix_seq (pv 7) (pe_ix ix_seq (pe_ix ix_seq (pv 11) (pe_un un_neg pe_int) (fun _ _ => rfl)) pe_int (fun _ _ => rfl)) (fun _ _ => rfl)) pe_non (nomark _)) (pss_cons (ps_set (i := 12) nd rfl (Or.inl rfl) (pe_ix ix_seq (pe_ix ix_seq (pv 11) (pe_un un_neg pe_int) (fun _ _ => rfl)) pe_int (fun _ _ => rfl)))
      (pss_cons (ps_set (i := 9) nd rfl (Or.inl rfl) (pe_ix ix_seq (pv 7) (pv 12) (fun _ _ => rfl)))
      (pss_cons (ps_expr (pe_bm PySem.F.plainAttrs_list PySem.F.slot_list_append PySem.F.type_list_append mt_append (pv 11) (pa_cons (pe_tup (pa_cons (pv 12) (pa_cons (pv 9) pa_nil))) pa_nil)))
      (pss_one (ps_expr (pe_bm PySem.F.plainAttrs_list PySem.F.slot_list_append PySem.F.type_list_append mt_append (pv 11) (pa_cons (pe_tup (pa_cons (pe_ix ix_seq (pv 8) (pv 9) (fun _ _ => rfl)) (pa_cons (pv 9) pa_nil))) pa_nil))))))))
      (pss_cons (ps_set (i := 13) nd rfl (Or.inl rfl) (pe_callB (cr_min rfl) (by rfl) B.min_ (by decide +kernel) (pa_cons (pe_op op_cat (pe_lst (pa_cons (pv 4) (pa_cons (pe_ix ix_seq (pv 2) (pe_ix ix_seq (pv 10) pe_int (fun _ _ => rfl)) (fun _ _ => rfl)) pa_nil))) (pe_lc (own := [("one", 12), ("two", 9)]) rfl nd (pi_list (pe_sl2 (pv 11))) (blkOk_by (own := [("one", 12), ("two", 9)]) (by kernel_rfl)) (fun _ _ _ _ _ => (pg_tup rfl (pgs_cons (pg_name (i := 12) nd rfl (Or.inl rfl)) (pgs_cons (pg_name (i := 9) nd rfl (Or.inl rfl)) pgs_nil)))) (fun _ _ _ _ _ => pts_nil) (fun _ _ _ _ _ => (pe_ix ix_seq (pe_ix ix_seq (pv 1) (pv 12) (fun _ _ => rfl)) (pv 9) (fun _ _ => rfl))))) pa_nil)))
      (pss_cons (ps_for PassesOwn.never rfl (pi_enum (by rfl) B.enumerate_ (pa_cons (pv 11) pa_nil)) (pg_tup rfl (pgs_cons (pg_name (i := 14) nd rfl (Or.inl rfl)) (pgs_cons (pg_tup rfl (pgs_cons (pg_name (i := 12) nd rfl (Or.inl rfl)) (pgs_cons (pg_name (i := 9) nd rfl (Or.inl rfl)) pgs_nil))) pgs_nil))) (pss_one (ps_augS (pe_ix ix_seq (pv 1) (pv 12) (fun _ _ => rfl)) (pv 9) pget_list (pe_ifExp (pt_cmpR op_eq (pe_op k_mod (pv 14) pe_int) pe_int (nomark _)) (pv 13) (pe_un un_neg (pv 13))) ip_add set_list)))
      (pss_cons (ps_augS (pv 2) (pe_ix ix_seq (pv 10) pe_int (fun _ _ => rfl)) pget_list (pv 13) ip_sub set_list)
      (pss_one (ps_ret (pv 13))))))))))))))

section
variable {P : Program} {w : World} {K : PySem.W.Frag} {mg : Str → Option Value} {base : Heap}
theorem q_callM2 {σ : L2.St} {H : Hp} {D : Ends} {tz : TS} {i j : Nat} {sp : Sp} {tr : TA} {vs : List V} (h : Vs tr σ H vs) (k : ∀ (Q : VK) (E : XK), (∀ T x y H', SqT K H' T [x, y] → tz D ((σ.set i (some x)).set j (some y)) H' → Q (.ref T) H') → sp vs H Q E) :
    tSeq (tAsg (tCall sp [] E0 tr) (gTup K 2 (gCons (gName i) (gCons (gName j) gNil)))) tz D σ H := h _ (by
  rw [List.append_nil]
  exact k _ _ fun T x y H' hT q => g_pair hT q)
theorem vt_tru {σ : L2.St} {H : Hp} {ta : TE} {x : V} {b : Bool} (ha : Va ta σ H x) (ht : TruV K x H b) : Vt (tTru K ta) σ H b := fun Q q => ha _ ⟨b, ht, q⟩
theorem al_lst1 {σ : L2.St} {H : Hp} {te : TE} {Pv : V → Hp → Prop} (h : Al te σ H Pv) : Al (tLst (tCons te tNil)) σ H (fun v H' => ∃ p x H1, v = .ref p ∧ Same H H1 ∧ Pv x H1 ∧ H1 p = none ∧ H' = upd H1 p (.lst [x])) := fun Q q =>
  h _ fun x H1 S p => ⟨small_line (show 1 ≤ 100000 by decide), fun r hr => q _ _ (S.trans (same_new hr)) ⟨r, x, H1, rfl, S, p, hr, rfl⟩⟩
/-- pairs, over a list made on the way -/
theorem src_P {σ : L2.St} {H : Hp} {ta : TE} {Pv : V → Hp → Prop} {n i j : Nat} {vs : List Nat} {x y : Nat → V} {td : Nat → Addr} (h : Al ta σ H Pv) (hl : ∀ v H1, Same H H1 → Pv v H1 → ∃ a, v = .ref a ∧ SqL K H1 a (tab n fun k => .ref (td k)) ∧ ∀ k, k < n → SqT K H1 (td k) [x k, y k]) :
    Src (iList K ta) (gTup K 2 (gCons (gName i) (gCons (gName j) gNil))) vs σ H n (fun k => ((wipe σ vs).set i (some (x k))).set j (some (y k))) := fun R r =>
  h _ fun v H1 S1 p => by
    obtain ⟨a, rfl, hl, ht⟩ := hl v H1 S1 p
    exact ⟨a, rfl, ⟨_, hl⟩, r _ H1 S1 (fun i H' S hi => ⟨_, _, S.l hl, tab_get hi⟩) (fun H' S => ⟨_, S.l hl, by rw [tab_len]; exact Nat.le_refl _⟩) (fun i H' x H'' S hi hy => by
      obtain ⟨e1, e2⟩ := hy
      subst e1
      have e3 := e2 _ (S.l hl)
      rw [tab_get hi] at e3
      cases e3
      exact ⟨Same.refl _, fun Q q => g_pair (S.t (ht i hi)) (q _ (Same.refl _))⟩)⟩
/-- for i, (x, y) in enumerate(a list of pairs) -/
theorem q_forEP {σ : L2.St} {H : Hp} {ta : TE} {a : Addr} {n i j j2 : Nat} {tu tz : TS} {D : Ends} {td : Nat → Addr} {x y : Nat → V} (h : Va ta σ H (.ref a)) (Pv : Nat → L2.St → Hp → Prop) (h0 : Pv 0 σ H) (hl : ∀ k σ' H', Pv k σ' H' → SqL K H' a (tab n fun k => .ref (td k)) ∧ ∀ k, k < n → SqT K H' (td k) [x k, y k])
    (hs : ∀ k σ' H' H2, k < n → Pv k σ' H' → Same H' H2 → tu { D with nx := Pv (k + 1), ct := Pv (k + 1), bk := tz D } (((σ'.set i (some (.int (k : Int)))).set j (some (x k))).set j2 (some (y k))) H2) (hd : ∀ σ' H', Pv n σ' H' → tz D σ' H') :
    tSeq (tFor (iEnum K (tCons ta tNil)) (gTup K 2 (gCons (gName i) (gCons (gTup K 2 (gCons (gName j) (gCons (gName j2) gNil))) gNil))) tu) tz D σ H :=
  h _ ⟨a, _, rfl, (hl 0 σ H h0).1, for_it (walk_enum (K := K) (a := a) (xs := tab n fun k => .ref (td k))) Pv h0 (fun k σ' H' _ p => (hl k σ' H' p).1) (fun k z σ' H' H2 hk p yl => by
    rw [tab_len] at hk
    obtain ⟨T, u, v, rfl, hT, rfl, e1, e2⟩ := yl
    cases e1
    have e3 : (tab n fun k => V.ref (td k))[k]? = some v := e2
    rw [tab_get hk] at e3
    cases e3
    refine ⟨T, [.int (k : Int), .ref (td k)], rfl, SqT.of upd_same, rfl, _, _, rfl, _, _, rfl, ?_⟩
    exact g_pair ((same_new hT).t ((hl k σ' H' p).2 k hk)) ⟨rfl, hs k σ' H' _ hk p (same_new hT)⟩) (fun σ' H' p => hd σ' H' (by rw [tab_len] at p; exact p))⟩
/-- a[x][y] += e -/
theorem st_augMM {σ : L2.St} {H : Hp} {a : Addr} {n i j : Nat} {ad : Nat → Addr} {f : Fl} {q : Int} {ta tx ty te : TE} {D : Ends} (ho : Va ta σ H (.ref a)) (hx : Va tx σ H (.int (i : Int))) (hy : Va ty σ H (.int (j : Int))) (he : Va te σ H (.int q)) (hM : MM H a n n ad (fun i j => .int (f i j))) (hi : i < n) (hj : j < n)
    (k : ∀ H1, (∀ b, (∀ q, q < n → b ≠ ad q) → H1 b = H b) → H1 = upd H (ad i) (.lst ((tab n fun j => .int (f i j)).set j (.int (f i j + q)))) → MM H1 a n n ad (fun x y => .int (adv f i j q x y)) → D.nx σ H1) :
    tAugS (tOp (rIx K) ta tx) ty te (rGetL K) (ipI fun i j => i + j) rSetL D σ H :=
  va_op ho hx (vr_xHl hM.1 hi) _ (hy _ ⟨ad i, tab n (fun j => .int (f i j)), j, .int (f i j), rfl, rfl, SqL.of (hM.2.1 i hi), tab_get hj, he _ ⟨f i j, q, rfl, rfl, ad i, tab n (fun j => .int (f i j)), (j : Int), j, rfl, rfl, hM.2.1 i hi, ixN_of (by rw [tab_len]; exact hj), k _ (fun b hb => upd_ne (hb i hi)) rfl (by
    have := hM.put (x := i) (y := j) (v := .int (f i j + q)) hi
    have e : (up (fun i j => V.int (f i j)) i (up (fun j => V.int (f i j)) j (.int (f i j + q)))) = fun x y => V.int (adv f i j q x y) := by
      funext x y
      unfold adv
      by_cases h1 : x = i
      · subst h1
        rw [up_same, up_same]
        by_cases h2 : y = j
        · subst h2; rw [up_same, up_same]
        · rw [up_ne h2, up_ne h2]
      · rw [up_ne h1, up_ne h1]
    rw [e] at this
    exact this)⟩⟩)
/-- a[j] -= e -/
theorem q_augL {σ : L2.St} {H : Hp} {a : Addr} {n j : Nat} {f : Nat → Int} {q : Int} {ta ty te : TE} {D : Ends} {tz : TS} (ho : Va ta σ H (.ref a)) (hy : Va ty σ H (.int (j : Int))) (he : Va te σ H (.int q)) (hM : H a = some (.lst (tabI n f))) (hj : j < n)
    (k : tz D σ (upd H a (.lst (tabI n (up f j (f j - q)))))) : tSeq (tAugS ta ty te (rGetL K) (ipI fun i j => i - j) rSetL) tz D σ H :=
  ho _ (hy _ ⟨a, tabI n f, j, .int (f j), rfl, rfl, SqL.of hM, tab_get hj, he _ ⟨f j, q, rfl, rfl, a, tabI n f, (j : Int), j, rfl, rfl, hM, ixN_of (by rw [tab_len]; exact hj), by
    rw [tab_set, tab_up (g := V.int)]
    exact k⟩⟩)
theorem at_last {n : Nat} {f : Nat → V} : atI (tab (n + 1) f) (-1) = some (f n) := by
  unfold atI ixN
  rw [tab_len, if_neg (by omega), if_pos (by omega)]
  show (tab (n + 1) f)[(-1 + ((n + 1 : Nat) : Int)).toNat]? = _
  have : (-1 + ((n + 1 : Nat) : Int)).toNat = n := by omega
  rw [this]
  exact tab_get (Nat.lt_succ_self n)
/-- a + b of new lists -/
theorem al_cat {σ : L2.St} {H : Hp} {ta tb : TE} {xs ys : List V} (ha : Al ta σ H (IsNewL H xs)) (hb : ∀ H1, Same H H1 → Al tb σ H1 (IsNewL H1 ys)) (hz : xs.length + ys.length ≤ 100000) : Al (tOp rCat ta tb) σ H (IsNewL H (xs ++ ys)) := fun Q q =>
  ha _ fun v H1 S1 ⟨p, ev, np, hp⟩ => hb H1 S1 _ fun w H2 S2 ⟨p2, ew, np2, hp2⟩ => ⟨p, p2, xs, ys, ev, ew, S2 _ _ hp, hp2, small_line hz, fun r hr => q _ _ ((S1.trans S2).trans (same_new hr)) ⟨r, rfl, (S1.trans S2).none hr, upd_same⟩⟩
abbrev rowsX (n : Nat) (ad : Nat → Addr) : List Addr := (List.range n).map ad
theorem rowsX_mem {n : Nat} {ad : Nat → Addr} {b : Addr} : b ∈ rowsX n ad ↔ ∃ i, i < n ∧ ad i = b := by
  unfold rowsX
  rw [List.mem_map]
  exact ⟨fun ⟨i, h, e⟩ => ⟨i, List.mem_range.mp h, e⟩, fun ⟨i, h, e⟩ => ⟨i, List.mem_range.mpr h, e⟩⟩
def spPush (K : PySem.W.Frag) : Sp := fun vs H Q _ => ∃ (n : Nat) (a fl wA : Addr) (ad : Nat → Addr) (e : Gr) (f : Fl) (r wt : Nat → Int) (b : Nat) (left : Int), vs = [.ref a, .ref fl, .ref wA, .int (b : Int), .int left] ∧ TR K H a n n (oI e) ∧ n ≤ 1000 ∧ MM H fl n n ad (fun i j => .int (f i j)) ∧
  H wA = some (.lst (tabI n wt)) ∧ wA ≠ fl ∧ (∀ i, i < n → ad i ≠ wA) ∧ Deal n e r f wt ∧ (∀ i, i < n → e i i = some 0) ∧ (∀ i, i < n → 0 ≤ r i) ∧ b < n ∧ left = r b - sumN n (f b) ∧ 0 < left ∧
  ∀ (q : Int) (f' : Fl) (wt' : Nat → Int) H', SX (wA :: rowsX n ad) H H' → MM H' fl n n ad (fun i j => .int (f' i j)) → H' wA = some (.lst (tabI n wt')) → Deal n e r f' wt' → 0 < q → q ≤ left → (∀ i, i < n → sumN n (f' i) = sumN n (f i) + if i = b then q else 0) → Q (.int q) H'
set_option maxHeartbeats 1000000 in
theorem cal_net_push (T : Txt K mg) : Cal P w K mg base 3 "net_push" ["entries", "flows", "wanted", "begin", "left"] (spPush K) := by
  refine T.net_push.cal sc_net_push (fun vs H Q E h => ?_) (fun fa cdv A outer s H vs Q E hr h => ⟨_, d_net_push T.B (cal_net_walks T) hr, ?_⟩)
  · obtain ⟨n, a, fl, wA, ad, e, f, r, wt, b, left, rfl, _⟩ := h; rfl
  obtain ⟨n, a, fl, wA, ad, e, f, r, wt, b, left, rfl, hT, hn, hM, hW, wfl, wad, hD, hdg, hr0, hb, hleft, hl0, q⟩ := h
  obtain ⟨U, V0, ho⟩ := hD.opt
  unfold t_net_push
  refine q_asgA (al_rep (n := n) (v := .non) (vs_cons va_c vs_nil) (fun H1 S => va_cb (vs_cons (va_var rfl) vs_nil) (vc_lenTT (S.tt hT))) (by omega)) fun v H1 S1 ⟨rA, ev, nr, hr1⟩ => ?_
  subst ev
  refine q_asgA (al_rep (n := n) (v := .non) (vs_cons va_c vs_nil) (fun H2 S => va_cb (vs_cons (va_var rfl) vs_nil) (vc_lenTT ((S1.trans S).tt hT))) (by omega)) fun v H2 S2 ⟨cA, ev, nc1, hc2⟩ => ?_
  subst ev
  have nc : H cA = none := S1.none nc1
  have nrc : rA ≠ cA := ne_of_none hr1 nc1
  refine q_setL (j := b) (n := n) va_c (va_var rfl) (va_var rfl) (S2 _ _ hr1) hb ?_
  have S3 : Same H (upd H2 rA (.lst (tab n (up (fun _ => .non) b (.int 0))))) := same_mut (S1.trans S2) nr
  have e1 : upd H2 rA (.lst (tab n (up (fun _ => .non) b (.int 0)))) rA = some (.lst (tab n (rowS (up (fun _ => none) b (some 0))))) := by
    rw [upd_same]
    exact congrArg (fun l => some (HO.lst l)) (tab_up (f := fun _ => (none : Option Int)) (g := oV) (v := some 0))
  have e2 : upd H2 rA (.lst (tab n (up (fun _ => .non) b (.int 0)))) cA = some (.lst (tab n (colS n (up (fun _ => none) b (some 0))))) := by
    rw [upd_ne (Ne.symm nrc), hc2]
    exact congrArg (fun l => some (HO.lst l)) (tab_congr fun j hj => by show V.non = oV (up (fun _ => none) b (some 0) (n + j)); rw [up_ne (by omega)]; rfl)
  generalize upd H2 rA (.lst (tab n (up (fun _ => .non) b (.int 0)))) = H3 at S3 e1 e2 ⊢
  have hpos : ∀ i j, i < n → j < n → 0 < f i j → ∃ w, e i j = some w := fun i j hi hj hf => (ho.eq i j hi hj hf).imp fun w h => h.1
  refine q_callM2 (vs := [.ref a, .ref fl, .ref rA, .ref cA]) (vs_cons (va_var rfl) (vs_cons (va_var rfl) (vs_cons (va_var rfl) (vs_cons (va_var rfl) vs_nil)))) fun Q1 E1 q1 => ⟨n, a, fl, rA, cA, ad, e, f, up (fun _ => none) b (some 0), npi n U V0 (-U b), rfl, S3.tt hT, ⟨S3.mm hM, fun z => ?_, fun i hi z => ?_⟩, hn, nrc, ⟨e1, e2⟩, ho.pi (-U b), fun v c hv hc => ?_, hpos, fun T4 H4 eA fA S F τ S4 hT4 he4 hf4 hr4 hc4 hW4 ne nf => ?_⟩
  · have h1 := hM.1
    rcases List.mem_cons.mp z with z | z
    · rw [z, nr] at h1; cases h1
    · rw [List.mem_singleton.mp z, nc] at h1; cases h1
  · have h1 := hM.2.1 i hi
    rcases List.mem_cons.mp z with z | z
    · rw [z, nr] at h1; cases h1
    · rw [List.mem_singleton.mp z, nc] at h1; cases h1
  · by_cases c1 : v = b
    · subst c1
      rw [up_same] at hc
      cases hc
      unfold npi
      rw [if_pos hb]
      omega
    · rw [up_ne c1] at hc; cases hc
  refine q1 T4 _ _ H4 hT4 ?_
  have S04 : Same H H4 := S4.after S3 fun x hx => by
    rcases List.mem_cons.mp hx with z | z
    · rw [z]; exact nr
    · rw [List.mem_singleton.mp z]; exact nc
  have tst : ∀ (σ : L2.St) (j : Nat) (H5 : Hp), j < n → Same H4 H5 → σ[15]? = some (some (colS n S j)) → σ[2]? = some (some (.ref wA)) → σ[9]? = some (some (.int (j : Int))) →
      At (tAnd (tTest (tOp kNotN (tVar 15) (tC .non))) (tTest (tOp rGt (tOp (rIx K) (tVar 2) (tVar 9)) (tC (.int 0))))) σ H5 (!decide (colS n S j = .non) && decide (0 < wt j)) := fun σ j H5 hj S5 h15 h2 h9 => by
    refine at_vt ?_
    cases cj : S (n + j) with
    | none =>
      have this : colS n S j = .non := oV_none cj
      rw [this] at h15 ⊢
      exact vt_and0 (vt_test (va_op (va_var h15) va_c vr_notNn))
    | some d =>
      have this : colS n S j = .int d := oV_some cj
      rw [this] at h15 ⊢
      refine vt_is (vt_andT (vt_test (va_op (va_var h15) va_c vr_notNi)) (vt_test (va_op (va_op (va_var h2) (va_var h9) (vr_xHl (f := fun j => .int (wt j)) ((S04.trans S5) _ _ hW) hj)) va_c vr_gt))) ?_
      rw [show decide (V.int d = V.non) = false from decide_eq_false (by intro z; cases z)]
      rfl
  refine q_asgA (al_lcF (fun j => !decide (colS n S j = .non) && decide (0 < wt j)) (fun j => .int (j : Int)) (src_E (n := n) (f := colS n S) (va_var rfl) (SqL.of hc4)) (fun _ => rfl) (by omega) (fun j H5 hj S5 => tst _ j H5 hj S5 rfl rfl rfl) fun j H5 hj S5 _ => al_va (va_var rfl)) fun v H5 S5 ⟨xA, ev, nx, hx5⟩ => ?_
  subst ev
  rw [given_tab] at hx5
  obtain ⟨j0, hj0, hs0, hw0⟩ := ends_ex hdg hD.nn hpos hW4 hb hr0 hD.row (by omega) hD.col
  have hmem : j0 ∈ (List.range n).filter (fun j => !decide (colS n S j = .non) && decide (0 < wt j)) := by
    rw [List.mem_filter]
    refine ⟨List.mem_range.mpr hj0, ?_⟩
    rw [decide_eq_true hw0, Bool.and_true]
    obtain ⟨d, hd⟩ := Option.ne_none_iff_exists'.mp hs0
    have : colS n S j0 = .int d := oV_some hd
    rw [this, decide_eq_false (by intro z; cases z)]
    rfl
  generalize hL : (List.range n).filter (fun j => !decide (colS n S j = .non) && decide (0 < wt j)) = L at hx5 hmem
  have hlen : 0 < L.length := List.length_pos_of_mem hmem
  obtain ⟨c0, hc0⟩ : ∃ c0, L.getD 0 0 = c0 := ⟨_, rfl⟩
  have hcm : c0 ∈ L := by
    rw [← hc0, List.getD, List.getElem?_eq_getElem hlen]
    exact List.getElem_mem hlen
  rw [← hL, List.mem_filter] at hcm
  obtain ⟨hc0n, hc0b⟩ := hcm
  have hc0n := List.mem_range.mp hc0n
  obtain ⟨hb1, hb2⟩ := Bool.and_eq_true_iff.mp hc0b
  have hwc := of_decide_eq_true hb2
  obtain ⟨x0, hx0⟩ : ∃ x0, S (n + c0) = some x0 := by
    cases c : S (n + c0) with
    | none =>
      have : colS n S c0 = .non := oV_none c
      rw [this] at hb1; simp at hb1
    | some x => exact ⟨x, rfl⟩
  obtain ⟨m, hP⟩ := pth_of hW4 hb hc0n hx0
  have hmn : m < n := by
    refine Classical.byContradiction fun z => ?_
    obtain ⟨i, j, h1, h2, h3⟩ := php n (pI n F c0) fun i hi => (hP.lt i (by omega)).2
    have := hP.inj i j (by omega) (by omega) h3
    omega
  refine q_ifFn (vt_is (vt_not (vt_tru (b := true) (va_var rfl) (.inl ⟨_, SqL.of hx5, ?_⟩))) rfl) ?_
  · cases hh : tab L.length (fun k => V.int ((L.getD k 0 : Nat) : Int)) with
    | nil => have := tab_len L.length (fun k => V.int ((L.getD k 0 : Nat) : Int)); rw [hh] at this; simp at this; omega
    | cons _ _ => rfl
  have vE : ∀ {σ' : L2.St} {H' : Hp}, σ'[10]? = some (some (V.ref xA)) → Same H5 H' → Va (tOp (rIx K) (tVar 10) (tC (.int 0))) σ' H' (.int (c0 : Int)) := fun h S => va_is (va_op (va_var h) va_c (vr_xL (SqL.of (S _ _ hx5)) (at_tab (i := 0) hlen))) (by rw [hc0])
  have hf5 := S5 _ _ hf4
  have he5 := S5 _ _ he4
  have vI : ∀ {σ' : L2.St} {H' : Hp} {k : Nat} {te : TE}, k ≤ m → σ'[8]? = some (some (V.ref fA)) → Same H5 H' → Va te σ' H' (.int (pC n F c0 k : Nat)) → Va (tOp (rIx K) (tVar 8) te) σ' H' (.int (pI n F c0 k : Nat)) := fun hk h S ht =>
    va_is (va_op (va_var h) ht (vr_xHl (S _ _ hf5) (hP.lt _ hk).1)) (oN_some (hP.col _ hk).1)
  refine q_asgA (al_lst1 (al_tup (vs := [.int (pI n F c0 0 : Nat), .int (c0 : Int)]) (vs_cons (vI (Nat.zero_le m) rfl (Same.refl _) (vE rfl (Same.refl _))) (vs_cons (vE rfl (Same.refl _)) vs_nil)))) fun v H6 S6 ⟨wk, x, H6', ev, S6', ⟨t0, ex, nt0, ht0⟩, nwk, eH6⟩ => ?_
  subst ev ex
  let WK : Nat → (Nat → Addr) → Hp → Prop := fun k td H' => Same H5 H' ∧ H' wk = some (.lst (tab (2 * k + 1) fun t => .ref (td t))) ∧ ∀ t, t < 2 * k + 1 → H' (td t) = some (.tup [.int (pa (pI n F c0) t : Nat), .int (pb (pC n F c0) t : Nat)])
  have nwk5 : H5 wk = none := S6'.none nwk
  refine q_while (fun μ σ' H' => ∃ k td v9 v12, k ≤ m ∧ μ = m - k ∧ σ' = [some (.ref a), some (.ref fl), some (.ref wA), some (.int (b : Int)), some (.int left), some (.ref rA), some (.ref cA), some (.ref eA), some (.ref fA), v9, some (.ref xA), some (.ref wk), v12, none, none, none] ∧ WK k td H')
    m ⟨0, fun _ => t0, none, none, Nat.zero_le m, rfl, rfl, S6, ?_, fun t ht => ?_⟩ fun μ σ' H' ⟨k, td, v9, v12, hk, em, es, S7, hw7, ht7⟩ => ?_
  · rw [eH6, upd_same]; rfl
  · have : t = 0 := by omega
    subst this
    rw [eH6, upd_ne (ne_of_none ht0 nwk)]
    exact ht0
  · subst es em
    have vOne : ∀ {σ' : L2.St}, σ'[11]? = some (some (V.ref wk)) → Va (tOp (rIx K) (tOp (rIx K) (tVar 11) (tUn (rU fun i => .int (-i)) (tC (.int 1)))) (tC (.int 0))) σ' H' (.int (pI n F c0 k : Nat)) := fun h =>
      va_is (va_op (va_op (va_var h) (va_un va_c) (vr_xL (SqL.of hw7) at_last)) va_c (vr_xT (SqT.of (ht7 (2 * k) (by omega))) rfl)) (by unfold pa; rw [show 2 * k / 2 = k by omega])
    by_cases hkm : k = m
    · subst hkm
      refine ⟨false, vt_test (va_op (va_is (va_op (va_var rfl) (vOne rfl) (vr_xHl (S7 _ _ he5) (hP.lt _ (Nat.le_refl _)).2)) (show rowF n F (pI n F c0 k) = .non by show oN ((F _).map _) = _; rw [hP.last.1]; rfl)) va_c vr_notNn), fun z => (by cases z), fun _ => ?_⟩
      have S07 : Same H H' := (S04.trans S5).trans S7
      have hM7 := S07.mm hM
      have vF : ∀ {σ' : L2.St} {H8 : Hp} {k' : Nat}, k' < k → σ'[1]? = some (some (V.ref fl)) → σ'[12]? = some (some (V.int (pI n F c0 k' : Nat))) → σ'[9]? = some (some (V.int (pC n F c0 (k' + 1) : Nat))) → Same H' H8 → Va (tOp (rIx K) (tOp (rIx K) (tVar 1) (tVar 12)) (tVar 9)) σ' H8 (.int (f (pI n F c0 k') (pC n F c0 (k' + 1)))) := fun hk' h1 h12 h9 S =>
        va_LL (K := K) (F := fun i j => .int (f i j)) (S.mm hM7).ll (va_var h1) (va_var h12) (va_var h9) (hP.lt _ (by omega)).2 (hP.lt _ (by omega)).1
      refine q_asgA (P := fun v _ => ∃ mn : Int, v = .int mn ∧ 0 < mn ∧ mn ≤ left ∧ mn ≤ wt c0 ∧ ∀ k', k' < k → mn ≤ f (pI n F c0 k') (pC n F c0 (k' + 1))) ?_ fun v H8 S8 ⟨mn, ev, m1, m2, m3, m4⟩ => ?_
      · refine al_cb1 (P := fun v H8 => ∃ p, v = .ref p ∧ H8 p = some (.lst ((left :: wt c0 :: (List.range k).map (fun k' => f (pI n F c0 k') (pC n F c0 (k' + 1)))).map V.int))) ?_ fun v H8 S8 ⟨p, ev, hp⟩ Q2 q2 => ?_
        · have ecat : [V.int left, .int (wt c0)] ++ tab k (fun k' => .int (f (pI n F c0 k') (pC n F c0 (k' + 1)))) = (left :: wt c0 :: (List.range k).map (fun k' => f (pI n F c0 k') (pC n F c0 (k' + 1)))).map V.int := by
            unfold tab
            rw [List.map_cons, List.map_cons, List.map_map]
            rfl
          rw [← ecat]
          refine Al.imp (al_cat (al_lst (vs := [.int left, .int (wt c0)]) (vs_cons (va_var rfl) (vs_cons (va_op (va_var rfl) (vE rfl S7) (vr_xHl (f := fun j => .int (wt j)) (S07 _ _ hW) hc0n)) vs_nil))) (fun H8 S8 => ?_) (by rw [tab_len]; show 2 + k ≤ _; omega)) fun v H9 _ ⟨p, e1, _, e2⟩ => ⟨p, e1, e2⟩
          refine al_lcV (fun k' => .int (f (pI n F c0 k') (pC n F c0 (k' + 1)))) (src_P (n := k) (x := fun k' => .int (pI n F c0 k' : Nat)) (y := fun k' => .int (pC n F c0 (k' + 1) : Nat)) (td := fun k' => td (2 * k' + 1)) (Pv := fun v H9 => ∃ p, v = .ref p ∧ H9 p = some (.lst (tab k fun k' => .ref (td (2 * k' + 1))))) ?_ fun v H9 S9 ⟨p, ev, hp⟩ => ⟨p, ev, SqL.of hp, fun k' hk' => ?_⟩) (fun _ => rfl) (by omega) fun k' H9 hk' S9 => al_va (vF hk' rfl rfl rfl (S8.trans S9))
          · intro Q3 q3
            refine ⟨_, rfl, wk, 2 * k + 1, fun t => .ref (td t), rfl, SqL.of (S8 _ _ hw7), fun p hp => q3 _ _ (same_new hp) ⟨p, rfl, ?_⟩⟩
            rw [upd_same, show (2 * k + 1) / 2 = k by omega]
          · have := ht7 (2 * k' + 1) (by omega)
            unfold pa pb at this
            rw [show (2 * k' + 1) / 2 = k' by omega, show (2 * k' + 1 + 1) / 2 = k' + 1 by omega] at this
            exact SqT.of (S9 _ _ (S8 _ _ this))
        · subst ev
          refine ⟨p, _, rfl, SqL.of hp, by simp, fun mn hmem hle => q2 _ H8 (Same.refl _) ⟨mn, rfl, ?_, hle left (by simp), hle _ (by simp), fun k' hk' => hle _ ?_⟩⟩
          · rcases List.mem_cons.mp hmem with z | hmem
            · rw [z]; exact hl0
            rcases List.mem_cons.mp hmem with z | hmem
            · rw [z]; exact hwc
            · obtain ⟨k', hk', ek⟩ := List.mem_map.mp hmem
              rw [← ek]
              exact (hP.row k' (List.mem_range.mp hk')).2
          · exact List.mem_cons_of_mem _ (List.mem_cons_of_mem _ (List.mem_map.mpr ⟨k', List.mem_range.mpr hk', rfl⟩))
      · subst ev
        have S08 : Same H H8 := S07.trans S8
        have hrows : ∀ {x : Addr}, H x = none → x ∉ rowsX n ad := fun {x} hx z => by
          obtain ⟨i, hi, ei⟩ := rowsX_mem.mp z
          have := hM.2.1 i hi
          rw [ei, hx] at this
          cases this
        have nwkH : H wk = none := (S04.trans S5).none nwk5
        have nxH : H xA = none := S04.none nx
        obtain ⟨D1, D2⟩ := push_deal hD ho hb hW4 hP m1 (by omega) m3 m4
        refine q_forEP (n := 2 * k + 1) (x := fun t => .int (pa (pI n F c0) t : Nat)) (y := fun t => .int (pb (pC n F c0) t : Nat)) (td := td) (va_var rfl) (fun t σ' H' => ∃ v9 v12 v14, σ' = [some (.ref a), some (.ref fl), some (.ref wA), some (.int (b : Int)), some (.int left), some (.ref rA), some (.ref cA), some (.ref eA), some (.ref fA), v9, some (.ref xA), some (.ref wk), v12, some (.int mn), v14, none] ∧
          SX (rowsX n ad) H8 H' ∧ MM H' fl n n ad (fun i j => .int (fpush f (pI n F c0) (pC n F c0) mn t i j))) ⟨v9, v12, none, rfl, .of (Same.refl _), S08.mm hM⟩ (fun t σ' H9 ⟨v9, v12, v14, es, S9, M9⟩ => ⟨SqL.of (S9.at (hrows nwkH) (S8 _ _ hw7)), fun t' ht' => S9.t (SqT.of (S8 _ _ (ht7 t' ht')))⟩) (fun t σ' H9 H10 ht ⟨v9, v12, v14, es, S9, M9⟩ S10 => ?_) (fun σ' H9 ⟨v9, v12, v14, es, S9, M9⟩ => ?_)
        · subst es
          have hpt : pa (pI n F c0) t < n := (hP.lt (t / 2) (by omega)).2
          have hpt2 : pb (pC n F c0) t < n := (hP.lt ((t + 1) / 2) (by omega)).1
          refine st_augMM (i := pa (pI n F c0) t) (j := pb (pC n F c0) t) (q := if t % 2 = 0 then mn else -mn) (va_var rfl) (va_var rfl) (va_var rfl) ?_ (S10.mm M9) hpt hpt2 fun H11 hne eH M11 => ⟨_, _, _, rfl, ?_, M11⟩
          · refine va_if (b := decide ((t : Int) % 2 = 0)) (vt_test (va_op (va_op (va_var rfl) va_c (vr_mod (by omega))) va_c vr_eqI)) (fun h => va_is (va_var rfl) ?_) (fun h => va_is (va_un (va_var rfl)) ?_)
            · rw [if_pos (by have := of_decide_eq_true h; omega)]
            · rw [if_neg (by have := of_decide_eq_false h; omega)]
          · rw [eH]
            exact (S9.same S10).put (rowsX_mem.mpr ⟨_, hpt, rfl⟩) ((S10.mm M9).2.1 _ hpt)
        · subst es
          have hwA : wA ∉ rowsX n ad := fun z => by
            obtain ⟨i, hi, ei⟩ := rowsX_mem.mp z
            exact wad i hi ei
          have hW9 := S9.at hwA (S08 _ _ hW)
          have SX9 : SX (wA :: rowsX n ad) H H9 := (SX.of S08).trans (S9.sub fun b l hb _ => List.mem_cons_of_mem _ hb)
          refine q_augL (j := c0) (va_var rfl) (va_is (va_op (va_var rfl) va_c (vr_xL (SqL.of (S9.at (hrows nxH) (S8 _ _ (S7 _ _ hx5)))) (at_tab (i := 0) hlen))) (by rw [hc0])) (va_var rfl) hW9 hc0n ?_
          refine st_ret (va_var rfl) (q mn _ _ _ (SX9.put (List.mem_cons_self ..) hW9) ⟨?_, fun i hi => ?_, M9.2.2⟩ upd_same D1 m1 m2 D2)
          · rw [upd_ne (Ne.symm wfl)]; exact M9.1
          · rw [upd_ne (wad i hi)]; exact M9.2.1 i hi
    · have hlt : k < m := by omega
      have hrow := hP.row k hlt
      have vTwo : ∀ {σ' : L2.St} {H9 : Hp} {te : TE}, σ'[7]? = some (some (V.ref eA)) → Same H' H9 → Va te σ' H9 (.int (pI n F c0 k : Nat)) → Va (tOp (rIx K) (tVar 7) te) σ' H9 (.int (pC n F c0 (k + 1) : Nat)) := fun h S ht =>
        va_is (va_op (va_var h) ht (vr_xHl (S _ _ (S7 _ _ he5)) (hP.lt _ hk).2)) (by show oN ((F _).map _) = _; rw [hrow.1]; show V.int ((n + pC n F c0 (k + 1) - n : Nat) : Int) = _; rw [show n + pC n F c0 (k + 1) - n = pC n F c0 (k + 1) by omega])
      refine ⟨true, vt_test (va_op (vTwo rfl (Same.refl _) (vOne rfl)) va_c vr_notNi), fun _ => ?_, fun z => (by cases z)⟩
      refine ⟨fun σ2 H2 => ∃ td v9 v12, σ2 = [some (.ref a), some (.ref fl), some (.ref wA), some (.int (b : Int)), some (.int left), some (.ref rA), some (.ref cA), some (.ref eA), some (.ref fA), v9, some (.ref xA), some (.ref wk), v12, none, none, none] ∧ WK (k + 1) td H2, fun σ2 H2 ⟨td, v9, v12, h1, h2⟩ => ⟨m - (k + 1), by omega, k + 1, td, v9, v12, hlt, rfl, h1, h2⟩, ?_⟩
      refine q_asg (vOne rfl) ?_
      refine q_asg (vTwo rfl (Same.refl _) (va_var rfl)) ?_
      have hz1 : (tab (2 * k + 1) fun t => V.ref (td t)).length < 100000 := by rw [tab_len]; omega
      refine q_appA (va_var rfl) (al_tup (vs := [.int (pI n F c0 k : Nat), .int (pC n F c0 (k + 1) : Nat)]) (vs_cons (va_var rfl) (vs_cons (va_var rfl) vs_nil))) hw7 hz1 fun v H9 S9 ⟨t1, ev, nt1, ht1⟩ => ?_
      subst ev
      have Sw : Same H5 (upd H9 wk (.lst ((tab (2 * k + 1) fun t => V.ref (td t)) ++ [.ref t1]))) := same_mut (S7.trans S9) nwk5
      have kp1 : ∀ {b : Addr} {o : HO}, b ≠ wk → H' b = some o → upd H9 wk (.lst ((tab (2 * k + 1) fun t => V.ref (td t)) ++ [.ref t1])) b = some o := fun hb e => by rw [upd_ne hb]; exact S9 _ _ e
      have tne : ∀ t, t < 2 * k + 1 → td t ≠ wk := fun t ht z => by have := ht7 t ht; rw [z, hw7] at this; cases this
      have t1ne : t1 ≠ wk := fun z => by rw [z, hw7] at nt1; cases nt1
      have hw9 : upd H9 wk (.lst ((tab (2 * k + 1) fun t => V.ref (td t)) ++ [.ref t1])) wk = some (.lst ((tab (2 * k + 1) fun t => V.ref (td t)) ++ [.ref t1])) := upd_same
      have ht9 : upd H9 wk (.lst ((tab (2 * k + 1) fun t => V.ref (td t)) ++ [.ref t1])) t1 = some (.tup [.int (pI n F c0 k : Nat), .int (pC n F c0 (k + 1) : Nat)]) := by rw [upd_ne t1ne]; exact ht1
      generalize upd H9 wk (.lst ((tab (2 * k + 1) fun t => V.ref (td t)) ++ [.ref t1])) = H10 at Sw kp1 hw9 ht9 ⊢
      have hz2 : ((tab (2 * k + 1) fun t => V.ref (td t)) ++ [V.ref t1]).length < 100000 := by rw [List.length_append, tab_len]; show 2 * k + 1 + 1 < _; omega
      refine st_appA (va_var rfl) (al_tup (vs := [.int (pI n F c0 (k + 1) : Nat), .int (pC n F c0 (k + 1) : Nat)]) (vs_cons (vI (k := k + 1) hlt rfl Sw (va_var rfl)) (vs_cons (va_var rfl) vs_nil))) hw9 hz2 fun v H11 S11 ⟨t2, ev, nt2, ht2⟩ => ?_
      subst ev
      have t2ne : t2 ≠ wk := fun z => by rw [z, hw9] at nt2; cases nt2
      refine ⟨up (up td (2 * k + 1) t1) (2 * k + 2) t2, _, _, rfl, same_mut (Sw.trans S11) nwk5, ?_, fun t ht => ?_⟩
      · have e3 : tab (2 * (k + 1) + 1) (fun t => V.ref (up (up td (2 * k + 1) t1) (2 * k + 2) t2 t)) = (tab (2 * k + 1) fun t => V.ref (td t)) ++ [.ref t1] ++ [.ref t2] := by
          rw [show 2 * (k + 1) + 1 = 2 * k + 1 + 1 + 1 by omega, tab_succ (2 * k + 1 + 1), tab_succ (2 * k + 1)]
          rw [show up (up td (2 * k + 1) t1) (2 * k + 2) t2 (2 * k + 1 + 1) = t2 from up_same, show up (up td (2 * k + 1) t1) (2 * k + 2) t2 (2 * k + 1) = t1 from (up_ne (by omega)).trans up_same]
          rw [show (tab (2 * k + 1) fun t => V.ref (up (up td (2 * k + 1) t1) (2 * k + 2) t2 t)) = tab (2 * k + 1) fun t => V.ref (td t) from tab_congr fun t ht => by rw [up_ne (show t ≠ 2 * k + 2 by omega), up_ne (show t ≠ 2 * k + 1 by omega)]]
        rw [upd_same, e3]
      · by_cases h2 : t = 2 * k + 2
        · subst h2
          rw [up_same, upd_ne t2ne, ht2]
          unfold pa pb
          rw [show (2 * k + 2) / 2 = k + 1 by omega, show (2 * k + 2 + 1) / 2 = k + 1 by omega]
        · rw [up_ne h2]
          by_cases h1 : t = 2 * k + 1
          · subst h1
            rw [up_same, upd_ne t1ne, S11 _ _ ht9]
            unfold pa pb
            rw [show (2 * k + 1) / 2 = k by omega, show (2 * k + 1 + 1) / 2 = k + 1 by omega]
          · rw [up_ne h1, upd_ne (tne t (by omega))]
            exact S11 _ _ (kp1 (tne t (by omega)) (ht7 t (by omega)))
end
end K45
set_option linter.all false
namespace K45
structure Dealt (n : Nat) (e : Gr) (r : Nat → Int) (f : Fl) : Prop where
  nn : ∀ i j, i < n → j < n → 0 ≤ f i j
  row : ∀ i, i < n → sumN n (f i) = r i
  col : ∀ j, j < n → sumN n (fun i => f i j) = r j
  opt : ∃ U V, Opt n e f U V
def worth (n : Nat) (e : Gr) (f : Fl) : Int := sumN n fun i => sumN n fun j => f i j * (e i j).getD 0
def dot (n : Nat) (r t : Nat → Int) : Int := sumN n fun i => r i * t i
theorem Dealt.pos {n : Nat} {e : Gr} {r : Nat → Int} {f : Fl} (h : Dealt n e r f) : ∀ i j, i < n → j < n → 0 < f i j → ∃ w, e i j = some w := fun i j hi hj hf => by
  obtain ⟨U, V, o⟩ := h.opt
  exact (o.eq i j hi hj hf).imp fun w h => h.1
theorem sumN_zero_of {n : Nat} {f : Nat → Int} (h0 : ∀ i, i < n → 0 ≤ f i) (hs : sumN n f = 0) : ∀ i, i < n → f i = 0 := fun i hi => by
  refine Classical.byContradiction fun z => ?_
  have h1 := h0 i hi
  have h2 : sumN n (fun _ => (0 : Int)) < sumN n f := sumN_lt1 (b := i) h0 hi (by omega)
  have h3 : sumN n (fun _ => (0 : Int)) = 0 := sumN_zero fun _ _ => rfl
  omega
theorem deal_end {n : Nat} {e : Gr} {r : Nat → Int} {f : Fl} {wt : Nat → Int} (D : Deal n e r f wt) (h : ∀ i, i < n → sumN n (f i) = r i) : Dealt n e r f := by
  have hs : sumN n wt = 0 := by
    have e1 : sumN n (fun j => sumN n (fun i => f i j) + wt j) = sumN n r := sumN_congr D.col
    rw [sumN_add, ← sumN_swap (f := f)] at e1
    have e2 : sumN n (fun i => sumN n (fun j => f i j)) = sumN n r := sumN_congr h
    omega
  have hz := sumN_zero_of D.wnn hs
  exact ⟨D.nn, h, fun j hj => by have := D.col j hj; rw [hz j hj] at this; omega, D.opt⟩
theorem deal_start {n : Nat} {e : Gr} {r : Nat → Int} (hr : ∀ i, i < n → 0 ≤ r i) : Deal n e r (fun _ _ => 0) r := by
  obtain ⟨b, h0, hb⟩ := bound2_of n n fun i j => (e i j).getD 0
  refine ⟨fun _ _ _ _ => Int.le_refl 0, fun i hi => ?_, fun j hj => ?_, hr, fun _ => 0, fun _ => b, fun _ _ _ _ => Int.le_refl 0, fun i j w hi hj he => ?_, fun i j hi hj hf => by omega⟩
  · rw [sumN_zero fun _ _ => rfl]; exact hr i hi
  · rw [sumN_zero fun _ _ => rfl]; omega
  · have := hb i j hi hj
    rw [he] at this
    have h2 : w ≤ b := this
    omega
/-- the value of potentials on a dealing -/
theorem worth_pot {n : Nat} {r : Nat → Int} {f : Fl} {U V : Nat → Int} (row : ∀ i, i < n → sumN n (f i) = r i) (col : ∀ j, j < n → sumN n (fun i => f i j) = r j) :
    sumN n (fun i => sumN n fun j => f i j * (V j - U i)) = dot n r (fun i => V i - U i) := by
  have e1 : sumN n (fun i => sumN n fun j => f i j * (V j - U i)) = sumN n (fun i => sumN n fun j => f i j * V j) - sumN n (fun i => sumN n fun j => f i j * U i) := by
    rw [← sumN_sub]
    refine sumN_congr fun i _ => ?_
    rw [← sumN_sub]
    exact sumN_congr fun j _ => Int.mul_sub ..
  have e2 : sumN n (fun i => sumN n fun j => f i j * V j) = sumN n fun j => r j * V j := by
    rw [sumN_swap (f := fun i j => f i j * V j)]
    refine sumN_congr fun j hj => ?_
    rw [sumN_mulr, col j hj]
  have e3 : sumN n (fun i => sumN n fun j => f i j * U i) = sumN n fun i => r i * U i := sumN_congr fun i hi => by rw [sumN_mulr, row i hi]
  rw [e1, e2, e3, ← sumN_sub]
  exact sumN_congr fun i _ => (Int.mul_sub ..).symm
theorem Dealt.worth {n : Nat} {e : Gr} {r : Nat → Int} {f : Fl} (h : Dealt n e r f) {U V : Nat → Int} (o : Opt n e f U V) : K45.worth n e f = dot n r (fun i => V i - U i) := by
  rw [← worth_pot (f := f) h.row h.col]
  refine sumN_congr fun i hi => sumN_congr fun j hj => ?_
  have h0 := h.nn i j hi hj
  by_cases c : 0 < f i j
  · obtain ⟨w, h1, h2⟩ := o.eq i j hi hj c
    rw [h1, h2]
    show f i j * w = _
    rw [show U i + w - U i = w by omega]
  · have : f i j = 0 := by omega
    rw [this, Int.zero_mul, Int.zero_mul]
/-- weak duality -/
theorem weak {n : Nat} {g : Gr} {r t : Nat → Int} {f : Fl} (hd : ∀ i, i < n → g i i = some 0) (hk : Kept n g t) (ht : ∀ i, i < n → 0 ≤ t i) (nn : ∀ i j, i < n → j < n → 0 ≤ f i j) (row : ∀ i, i < n → sumN n (f i) = r i) (col : ∀ j, j < n → sumN n (fun i => f i j) = r j)
    (pos : ∀ i j, i < n → j < n → 0 < f i j → ∃ w, g i j = some w) : worth n g f ≤ dot n r t := by
  obtain ⟨p, hp⟩ := hk
  have e1 : dot n r (fun i => p i - (p i - t i)) = dot n r t := sumN_congr fun i _ => by show r i * (p i - (p i - t i)) = _; rw [show p i - (p i - t i) = t i by omega]
  rw [← e1, ← worth_pot (f := f) row col]
  refine sumN_le fun i hi => sumN_le fun j hj => ?_
  have h0 := nn i j hi hj
  by_cases c : 0 < f i j
  · obtain ⟨w, h1⟩ := pos i j hi hj c
    rw [h1]
    show f i j * w ≤ _
    refine Int.mul_le_mul_of_nonneg_left ?_ h0
    by_cases hij : i = j
    · subst hij
      rw [hd i hi] at h1
      cases h1
      have := ht i hi
      omega
    · have := hp i j hi hj (w - t i) (by rw [gn_ne hij, h1]; rfl)
      omega
  · have : f i j = 0 := by omega
    rw [this, Int.zero_mul, Int.zero_mul]
    exact Int.le_refl 0
/-- the waits that potentials give -/
theorem opt_kept {n : Nat} {g : Gr} {f : Fl} {U V : Nat → Int} (hd : ∀ i, i < n → g i i = some 0) (o : Opt n g f U V) : Kept n g (fun i => V i - U i) ∧ ∀ i, i < n → 0 ≤ V i - U i := by
  refine ⟨⟨V, fun i j hi hj v hv => ?_⟩, fun i hi => ?_⟩
  · obtain ⟨hij, h1⟩ := gn_some hv
    have := o.up i j _ hi hj h1
    omega
  · have := o.up i i 0 hi hi (hd i hi)
    omega
/-- waits of least cost -/
def Cheap (n : Nat) (g : Gr) (r t : Nat → Int) : Prop := Kept n g t ∧ (∀ i, i < n → 0 ≤ t i) ∧ ∃ f, (∀ i j, i < n → j < n → 0 ≤ f i j) ∧ (∀ i, i < n → sumN n (f i) = r i) ∧ (∀ j, j < n → sumN n (fun i => f i j) = r j) ∧ (∀ i j, i < n → j < n → 0 < f i j → ∃ w, g i j = some w) ∧ dot n r t ≤ worth n g f
theorem Cheap.least {n : Nat} {g : Gr} {r t t' : Nat → Int} (hd : ∀ i, i < n → g i i = some 0) (h : Cheap n g r t) (hk : Kept n g t') (h0 : ∀ i, i < n → 0 ≤ t' i) : dot n r t ≤ dot n r t' := by
  obtain ⟨_, _, f, nn, row, col, pos, hw⟩ := h
  have := weak hd hk h0 nn row col pos
  omega
theorem Dealt.cheap {n : Nat} {g : Gr} {r : Nat → Int} {f : Fl} (hd : ∀ i, i < n → g i i = some 0) (h : Dealt n g r f) {U V : Nat → Int} (o : Opt n g f U V) : Cheap n g r (fun i => V i - U i) :=
  ⟨(opt_kept hd o).1, (opt_kept hd o).2, f, h.nn, h.row, h.col, h.pos, Int.le_of_eq (h.worth o).symm⟩
/-- any dealing found is worth what waits of least cost cost -/
theorem Dealt.is {n : Nat} {g : Gr} {r t : Nat → Int} {f : Fl} (hd : ∀ i, i < n → g i i = some 0) (h : Dealt n g r f) (hc : Cheap n g r t) : K45.worth n g f = dot n r t := by
  obtain ⟨U, V, o⟩ := h.opt
  have h1 := weak hd hc.1 hc.2.1 h.nn h.row h.col h.pos
  obtain ⟨k1, k2⟩ := opt_kept hd o
  have h2 := hc.least hd k1 k2
  have h3 := h.worth o
  omega
end K45
set_option Elab.async false
set_option linter.all false
set_option maxRecDepth 100000
set_option maxHeartbeats 200000
namespace K45
open PySem PySem.Spec PyProof.Rows L2
abbrev s_net_deal : Stmt := topS 34
theorem sc_net_deal : FnScope ["entries", "rates", "flows", "wanted", "begin", "rate", "left", "many", "line"] ["entries", "rates"] (defScope s_net_deal) := ⟨rfl, rfl, rfl, by decide +kernel, rfl, by decide +kernel, by decide +kernel⟩
def t_net_deal (K : PySem.W.Frag) (sp_net_push : Sp) : TS := (tSeq (tAsg (tLc (iTup K (tVar 0)) (gName 8) tYes (tOp rRep (tLst (tCons (tC (.int 0)) tNil)) (tCB (cLen K) (tCons (tVar 0) tNil))) [8]) (gName 2))
    (tSeq (tAsg (tCB (cList K) (tCons (tVar 1) tNil)) (gName 3))
    (tSeq (tFor (iEnumT K (tCons (tVar 1) tNil)) (gTup K 2 (gCons (gName 4) (gCons (gName 5) gNil))) (tSeq (tAsg (tVar 5) (gName 6))
    (tWhile (tTest (tOp rGt (tVar 6) (tC (.int 0)))) (tSeq (tAsg (tCall sp_net_push [] E0 (tCons (tVar 0) (tCons (tVar 2) (tCons (tVar 3) (tCons (tVar 4) (tCons (tVar 6) tNil)))))) (gName 7))
    (tSeq (tIfS (tTest (tOp rEq (tVar 7) (tC (.int 0)))) (tRet (tC .non)) tNext)
    (tAug 6 (tVar 7) (ipI fun i j => i - j)))))))
    (tRet (tVar 2)))))
theorem d_net_deal {P : Program} {w : World} {K : PySem.W.Frag} {mg : Str → Option Value} {base : Heap} (B : Bif mg) {sp_net_push : Sp} (c_net_push : Cal P w K mg base 3 "net_push" ["entries", "flows", "wanted", "begin", "left"] sp_net_push) {f : Addr} {cdv : Value} {A : Around} {outer : List Env} {s : Shared} {H : Hp} {E : XK} (hr : Room 3 (A.deeper (envOfC "net_deal" (defScope s_net_deal) s.heap.objs.size f cdv))) :
    PSs (cxOf CX0 P w K mg base ["entries", "rates", "flows", "wanted", "begin", "rate", "left", "many", "line"] "net_deal" (defScope s_net_deal) f cdv A outer s H E).nox (defBody s_net_deal) (t_net_deal K sp_net_push) := by
  have nd := sc_net_deal.nd
  exact (pss_cons (ps_setLc (i := 2) (own := [("line", 8)]) rfl nd rfl rfl (sw_true rfl rfl rfl (by decide +kernel)) (pi_tup (pv 0)) (blkOk_by (own := [("line", 8)]) (by kernel_rfl)) (fun _ _ _ _ _ => (pg_name (i := 8) nd rfl (Or.inl rfl))) (fun _ _ _ _ _ => pts_nil) (fun _ _ _ _ _ => (pe_op op_rep (pe_lst (pa_cons pe_int pa_nil)) (pe_callB k_len (by rfl) B.len_ (by decide +kernel) (pa_cons (pv 0) pa_nil)))))
      (pss_cons (ps_set (i := 3) nd rfl (Or.inl rfl) (pe_callTy k_list (by rfl) B.list_ (by decide +kernel) (pa_cons (pv 1) pa_nil)))
      (pss_cons (ps_for PassesOwn.never rfl (pi_enumT (by rfl) B.enumerate_ (pa_cons (pv 1) pa_nil)) (pg_tup rfl (pgs_cons (pg_name (i := 4) nd rfl (Or.inl rfl)) (pgs_cons (pg_name (i := 5) nd rfl (Or.inl rfl)) pgs_nil))) (pss_cons (ps_set (i := 6) nd rfl (Or.inl rfl) (pv 5))
      (pss_one (ps_while PassesOwn.never (pt_cmpR k_gt (pv 6) pe_int (nomark _)) (pss_cons (ps_set (i := 7) nd rfl (Or.inl rfl) (pe_cal c_net_push hr (by decide) (by rfl) (pa_cons (pv 0) (pa_cons (pv 2) (pa_cons (pv 3) (pa_cons (pv 4) (pa_cons (pv 6) pa_nil)))))))
      (pss_cons (ps_if (pt_cmpR op_eq (pv 7) pe_int (nomark _)) (pss_one (ps_ret pe_non)) pss_nil)
      (pss_one (ps_aug (i := 6) nd rfl (Or.inl rfl) (pv 7) ip_sub))))))))
      (pss_one (ps_ret (pv 2))))))

abbrev s_net_heights : Stmt := topS 36
theorem sc_net_heights : FnScope ["entries", "flows", "rows", "columns"] ["entries", "flows"] (defScope s_net_heights) := ⟨rfl, rfl, rfl, by decide +kernel, rfl, by decide +kernel, by decide +kernel⟩
def t_net_heights (K : PySem.W.Frag) (sp_net_walks : Sp) : TS := (tSeq (tAsg (tOp rRep (tLst (tCons (tC (.int 0)) tNil)) (tCB (cLen K) (tCons (tVar 0) tNil))) (gName 2))
    (tSeq (tAsg (tOp rRep (tLst (tCons (tC (.int 0)) tNil)) (tCB (cLen K) (tCons (tVar 0) tNil))) (gName 3))
    (tSeq (tDrop (tCall sp_net_walks [] E0 (tCons (tVar 0) (tCons (tVar 1) (tCons (tVar 2) (tCons (tVar 3) tNil))))))
    (tRet (tTup (tCons (tVar 2) (tCons (tVar 3) tNil)))))))
theorem d_net_heights {P : Program} {w : World} {K : PySem.W.Frag} {mg : Str → Option Value} {base : Heap} (B : Bif mg) {sp_net_walks : Sp} (c_net_walks : Cal P w K mg base 2 "net_walks" ["entries", "flows", "rows", "columns"] sp_net_walks) {f : Addr} {cdv : Value} {A : Around} {outer : List Env} {s : Shared} {H : Hp} {E : XK} (hr : Room 2 (A.deeper (envOfC "net_heights" (defScope s_net_heights) s.heap.objs.size f cdv))) :
    PSs (cxOf CX0 P w K mg base ["entries", "flows", "rows", "columns"] "net_heights" (defScope s_net_heights) f cdv A outer s H E).nox (defBody s_net_heights) (t_net_heights K sp_net_walks) := by
  have nd := sc_net_heights.nd
  exact (pss_cons (ps_set (i := 2) nd rfl (Or.inl rfl) (pe_op op_rep (pe_lst (pa_cons pe_int pa_nil)) (pe_callB k_len (by rfl) B.len_ (by decide +kernel) (pa_cons (pv 0) pa_nil))))
      (pss_cons (ps_set (i := 3) nd rfl (Or.inl rfl) (pe_op op_rep (pe_lst (pa_cons pe_int pa_nil)) (pe_callB k_len (by rfl) B.len_ (by decide +kernel) (pa_cons (pv 0) pa_nil))))
      (pss_cons (ps_expr (pe_cal c_net_walks hr (by decide) (by rfl) (pa_cons (pv 0) (pa_cons (pv 1) (pa_cons (pv 2) (pa_cons (pv 3) pa_nil))))))
      (pss_one (ps_ret (pe_tup (pa_cons (pv 2) (pa_cons (pv 3) pa_nil))))))))

section
variable {P : Program} {w : World} {K : PySem.W.Frag} {mg : Str → Option Value} {base : Heap}
def spDeal (K : PySem.W.Frag) : Sp := fun vs H Q _ => ∃ (n : Nat) (a ra : Addr) (e : Gr) (r : Nat → Int), vs = [.ref a, .ref ra] ∧ TR K H a n n (oI e) ∧ SqT K H ra (tabI n r) ∧ n ≤ 1000 ∧ (∀ i, i < n → e i i = some 0) ∧ (∀ i, i < n → 0 ≤ r i) ∧
  Ret (fun v H' => ∃ fl ad f, v = .ref fl ∧ MM H' fl n n ad (fun i j => .int (f i j)) ∧ H fl = none ∧ (∀ i, i < n → H (ad i) = none) ∧ Dealt n e r f) H Q
theorem cal_net_deal (T : Txt K mg) : Cal P w K mg base 4 "net_deal" ["entries", "rates"] (spDeal K) := by
  refine T.net_deal.cal sc_net_deal (fun vs H Q E h => ?_) (fun fa cdv A outer s H vs Q E hr h => ⟨_, d_net_deal T.B (cal_net_push T) hr, ?_⟩)
  · obtain ⟨n, a, ra, e, r, rfl, _⟩ := h; rfl
  obtain ⟨n, a, ra, e, r, rfl, hT, hR, hn, hd, hr0, q⟩ := h
  unfold t_net_deal
  obtain ⟨tad, ht1, ht2⟩ := id hT
  refine q_asgA (al_lcN (fun i => .lst (tab n fun j => .int 0)) (src_T (n := n) (f := fun i => .ref (tad i)) (va_var rfl) ht1) (fun _ => rfl) (by omega) fun i H1 hi S1 => ?_) fun v H1 S1 pv => ?_
  · exact Al.imp (al_rep (n := n) (v := .int 0) (vs_cons va_c vs_nil) (fun H2 S => va_cb (vs_cons (va_var rfl) vs_nil) (vc_lenTT ((S1.trans S).tt hT))) (by omega)) fun v H2 _ ⟨p, e1, e2, e3⟩ => ⟨p, e1, e2, e3⟩
  obtain ⟨fl, ad, ev, nfl, nad, hM⟩ := news_mm (F := fun i j => .int ((fun _ _ => 0 : Fl) i j)) pv
  subst ev
  refine q_asgA (al_listT (va_var rfl) (S1.t hR)) fun v H2 S2 ⟨wA, ev, nw, hw⟩ => ?_
  subst ev
  have wfl : wA ≠ fl := fun z => by rw [z, hM.1] at nw; cases nw
  have wad : ∀ i, i < n → ad i ≠ wA := fun i hi z => by have := hM.2.1 i hi; rw [z, nw] at this; cases this
  have nwH : H wA = none := S1.none nw
  have fresh : ∀ b, b ∈ wA :: rowsX n ad → H b = none := fun b hb => by
    rcases List.mem_cons.mp hb with z | z
    · rw [z]; exact nwH
    · obtain ⟨i, hi, ei⟩ := rowsX_mem.mp z
      rw [← ei]; exact nad i hi
  let INV : Fl → (Nat → Int) → Hp → Prop := fun f wt H' => Same H H' ∧ MM H' fl n n ad (fun i j => .int (f i j)) ∧ H' wA = some (.lst (tabI n wt)) ∧ Deal n e r f wt
  refine q_forET (n := n) (f := fun i => .int (r i)) (va_var rfl) (fun b σ' H' => ∃ v4 v5 v6 v7 f wt, σ' = [some (.ref a), some (.ref ra), some (.ref fl), some (.ref wA), v4, v5, v6, v7, none] ∧ INV f wt H' ∧ ∀ i, i < n → sumN n (f i) = if i < b then r i else 0)
    ⟨none, none, none, none, _, r, rfl, ⟨S1.trans S2, S2.mm hM, hw, deal_start hr0⟩, fun i hi => by rw [if_neg (Nat.not_lt_zero i)]; exact sumN_zero fun _ _ => rfl⟩ (fun b σ' H' ⟨_, _, _, _, _, _, _, h, _⟩ => h.1.t hR) (fun b σ' H' H3 hb ⟨v4, v5, v6, v7, f, wt, es, ⟨S, M, W, D⟩, hrow⟩ S3 => ?_) (fun σ' H' ⟨v4, v5, v6, v7, f, wt, es, ⟨S, M, W, D⟩, hrow⟩ => ?_)
  · subst es
    refine q_asg (va_var rfl) ?_
    refine st_while (fun μ σ' H' => ∃ v7 f wt, ∃ left : Int, μ = left.toNat ∧ σ' = [some (.ref a), some (.ref ra), some (.ref fl), some (.ref wA), some (.int (b : Int)), some (.int (r b)), some (.int left), v7, none] ∧ INV f wt H' ∧ (∀ i, i < n → i ≠ b → sumN n (f i) = if i < b then r i else 0) ∧ left = r b - sumN n (f b) ∧ 0 ≤ left) (r b).toNat
      ⟨v7, f, wt, r b, rfl, rfl, ⟨S.trans S3, S3.mm M, S3 _ _ W, D⟩, fun i hi _ => hrow i hi, by rw [hrow b hb, if_neg (Nat.lt_irrefl b)]; omega, hr0 b hb⟩ fun μ σ' H4 ⟨v7, f, wt, left, eμ, es, ⟨S, M, W, D⟩, hrow, hleft, hl0⟩ => ?_
    subst es eμ
    refine ⟨decide (0 < left), vt_test (va_op (va_var rfl) va_c vr_gt), fun hlt => ?_, fun hge => ?_⟩
    · have hlt := of_decide_eq_true hlt
      refine ⟨fun σ2 H2 => ∃ v7 f wt, ∃ left' : Int, left' < left ∧ σ2 = [some (.ref a), some (.ref ra), some (.ref fl), some (.ref wA), some (.int (b : Int)), some (.int (r b)), some (.int left'), v7, none] ∧ INV f wt H2 ∧ (∀ i, i < n → i ≠ b → sumN n (f i) = if i < b then r i else 0) ∧ left' = r b - sumN n (f b) ∧ 0 ≤ left', fun σ2 H2 ⟨v7, f, wt, left', h1, h2⟩ => ⟨left'.toNat, by omega, v7, f, wt, left', rfl, h2⟩, ?_⟩
      refine q_callM (vs := [.ref a, .ref fl, .ref wA, .int (b : Int), .int left]) (vs_cons (va_var rfl) (vs_cons (va_var rfl) (vs_cons (va_var rfl) (vs_cons (va_var rfl) (vs_cons (va_var rfl) vs_nil))))) fun E => ⟨n, a, fl, wA, ad, e, f, r, wt, b, left, rfl, S.tt hT, hn, M, W, wfl, wad, D, hd, hr0, hb, hleft, hlt, fun m f' wt' H5 SX5 M5 W5 D5 m1 m2 hrow5 => ?_⟩
      refine q_ifFn (vt_is (vt_test (va_op (va_var (v := .int m) rfl) va_c vr_eqI)) (decide_eq_false (by omega))) ?_
      refine ⟨.int left, rfl, ?_⟩
      refine va_var (v := .int m) rfl _ ⟨left, m, rfl, rfl, ?_⟩
      have hb5 := hrow5 b hb
      rw [if_pos rfl] at hb5
      exact ⟨_, f', wt', left - m, by omega, rfl, ⟨SX5.after S fresh, M5, W5, D5⟩, fun i hi hib => by rw [hrow5 i hi, if_neg hib, Int.add_zero]; exact hrow i hi hib, by omega, by omega⟩
    · have hz : left = 0 := by have := of_decide_eq_false hge; omega
      refine ⟨_, _, _, _, f, wt, rfl, ⟨S, M, W, D⟩, fun i hi => ?_⟩
      by_cases c : i = b
      · subst c; rw [if_pos (Nat.lt_succ_self i)]; omega
      · rw [hrow i hi c]
        by_cases c2 : i < b
        · rw [if_pos c2, if_pos (by omega)]
        · rw [if_neg c2, if_neg (by omega)]
  · subst es
    exact st_ret (va_var rfl) (q _ _ S ⟨fl, ad, f, rfl, M, nfl, nad, deal_end D fun i hi => by rw [hrow i hi, if_pos hi]⟩)
def spHeights (K : PySem.W.Frag) : Sp := fun vs H Q _ => ∃ (n : Nat) (a fl : Addr) (ad : Nat → Addr) (e : Gr) (f : Fl), vs = [.ref a, .ref fl] ∧ TR K H a n n (oI e) ∧ MM H fl n n ad (fun i j => .int (f i j)) ∧ n ≤ 1000 ∧ (∃ U V, Opt n e f U V) ∧
  Ret (fun v H' => ∃ q rA cA U V, v = .ref q ∧ SqT K H' q [.ref rA, .ref cA] ∧ H' rA = some (.lst (tabI n U)) ∧ H' cA = some (.lst (tabI n V)) ∧ Opt n e f U V) H Q
theorem q_dropM {σ : L2.St} {H : Hp} {D : Ends} {tz : TS} {sp : Sp} {tr : TA} {vs : List V} (h : Vs tr σ H vs) (k : ∀ E : XK, sp vs H (fun v H' => tz D σ H') E) : tSeq (tDrop (tCall sp [] E0 tr)) tz D σ H := h _ (by rw [List.append_nil]; exact k _)
theorem cal_net_heights (T : Txt K mg) : Cal P w K mg base 3 "net_heights" ["entries", "flows"] (spHeights K) := by
  refine T.net_heights.cal sc_net_heights (fun vs H Q E h => ?_) (fun fa cdv A outer s H vs Q E hr h => ⟨_, d_net_heights T.B (cal_net_walks T) hr, ?_⟩)
  · obtain ⟨n, a, fl, ad, e, f, rfl, _⟩ := h; rfl
  obtain ⟨n, a, fl, ad, e, f, rfl, hT, hM, hn, ⟨U, V0, ho⟩, q⟩ := h
  unfold t_net_heights
  refine q_asgA (al_rep (n := n) (v := .int 0) (vs_cons va_c vs_nil) (fun H1 S => va_cb (vs_cons (va_var rfl) vs_nil) (vc_lenTT (S.tt hT))) (by omega)) fun v H1 S1 ⟨rA, ev, nr, hr1⟩ => ?_
  subst ev
  refine q_asgA (al_rep (n := n) (v := .int 0) (vs_cons va_c vs_nil) (fun H2 S => va_cb (vs_cons (va_var rfl) vs_nil) (vc_lenTT ((S1.trans S).tt hT))) (by omega)) fun v H2 S2 ⟨cA, ev, nc1, hc2⟩ => ?_
  subst ev
  have nc : H cA = none := S1.none nc1
  have nrc : rA ≠ cA := ne_of_none hr1 nc1
  have S3 := S1.trans S2
  obtain ⟨B1, B10, hB1⟩ := bound_of n fun i => -U i
  obtain ⟨B2, B20, hB2⟩ := bound_of n fun i => -V0 i
  refine q_dropM (vs := [.ref a, .ref fl, .ref rA, .ref cA]) (vs_cons (va_var rfl) (vs_cons (va_var rfl) (vs_cons (va_var rfl) (vs_cons (va_var rfl) vs_nil)))) fun E1 => ⟨n, a, fl, rA, cA, ad, e, f, fun _ => some 0, npi n U V0 (B1 + B2), rfl, S3.tt hT, ⟨S3.mm hM, fun z => ?_, fun i hi z => ?_⟩, hn, nrc, ⟨S2 _ _ hr1, hc2⟩, ho.pi _, fun v c hv hc => ?_, fun i j hi hj hf => (ho.eq i j hi hj hf).imp fun w h => h.1, fun T4 H4 eA fA S F τ S4 hT4 he4 hf4 hr4 hc4 hW4 ne nf => ?_⟩
  · have h1 := hM.1
    rcases List.mem_cons.mp z with z | z
    · rw [z, nr] at h1; cases h1
    · rw [List.mem_singleton.mp z, nc] at h1; cases h1
  · have h1 := hM.2.1 i hi
    rcases List.mem_cons.mp z with z | z
    · rw [z, nr] at h1; cases h1
    · rw [List.mem_singleton.mp z, nc] at h1; cases h1
  · cases hc
    unfold npi
    by_cases c : v < n
    · rw [if_pos c]; have := hB1 v c; omega
    · rw [if_neg c]; have := hB2 (v - n) (by omega); omega
  have S04 : Same H H4 := S4.after S3 fun x hx => by
    rcases List.mem_cons.mp hx with z | z
    · rw [z]; exact nr
    · rw [List.mem_singleton.mp z]; exact nc
  have hS : ∀ v, ∃ c, S v = some c := fun v => by
    obtain ⟨c, h, _⟩ := hW4.mono v 0 rfl
    exact ⟨c, h⟩
  have hSv : ∀ v, S v = some ((S v).getD 0) := fun v => by
    obtain ⟨c, h⟩ := hS v
    rw [h]; rfl
  have hO : Opt n e f (fun i => (S i).getD 0) (fun j => (S (n + j)).getD 0) := by
    refine ⟨ho.nn, fun i j w hi hj he => ?_, fun i j hi hj hf => ?_⟩
    · obtain ⟨d, h1, h2⟩ := hW4.fwd i j w _ hi hj he (hSv i)
      rw [h1]; exact h2
    · obtain ⟨w, h1, _⟩ := ho.eq i j hi hj hf
      obtain ⟨d, h3, h4⟩ := hW4.fwd i j w _ hi hj h1 (hSv i)
      obtain ⟨c, h5, h6⟩ := hW4.bwd i j w _ hi hj hf h1 (hSv (n + j))
      refine ⟨w, h1, ?_⟩
      have e1 : (S i).getD 0 = c := by rw [h5]; rfl
      have e2 : (S (n + j)).getD 0 = d := by rw [h3]; rfl
      show (S (n + j)).getD 0 = (S i).getD 0 + w
      omega
  have hr5 : H4 rA = some (.lst (tabI n fun i => (S i).getD 0)) := by
    rw [hr4]
    exact congrArg (fun l => some (HO.lst l)) (tab_congr fun i _ => by show oV (S i) = _; rw [hSv i]; rfl)
  have hc5 : H4 cA = some (.lst (tabI n fun j => (S (n + j)).getD 0)) := by
    rw [hc4]
    exact congrArg (fun l => some (HO.lst l)) (tab_congr fun i _ => by show oV (S (n + i)) = _; rw [hSv (n + i)]; rfl)
  refine st_retA (al_tup (vs := [.ref rA, .ref cA]) (vs_cons (va_var rfl) (vs_cons (va_var rfl) vs_nil))) fun v H5 S5 ⟨p, ev, _, hp⟩ => q v H5 (S04.trans S5) ⟨p, rA, cA, _, _, ev, SqT.of hp, S5 _ _ hr5, S5 _ _ hc5, hO⟩
end
end K45
set_option Elab.async false
set_option linter.all false
set_option maxRecDepth 100000
set_option maxHeartbeats 200000
namespace K45
open PySem PySem.Spec PyProof.Rows L2
abbrev s_are_door_numbers : Stmt := topS 28
theorem sc_are_door_numbers : FnScope ["size", "thing", "one"] ["size", "thing"] (defScope s_are_door_numbers) := ⟨rfl, rfl, rfl, by decide +kernel, rfl, by decide +kernel, by decide +kernel⟩
def t_are_door_numbers (K : PySem.W.Frag) (sp_is_number : Sp) : TS := (tRet (tAndV (tCB (cIsi K) (tCons (tVar 1) (tCons (tC (.ty "tuple")) tNil))) (tAndV (tOp rEq (tCB (cLen K) (tCons (tVar 1) tNil)) (tVar 0)) (tCB (rAll K) (tCons (tLc (iTup K (tVar 1)) (gName 2) tYes (tCall sp_is_number [] E0 (tCons (tVar 2) tNil)) [2]) tNil)))))
theorem d_are_door_numbers {P : Program} {w : World} {K : PySem.W.Frag} {mg : Str → Option Value} {base : Heap} (B : Bif mg) {sp_is_number : Sp} (c_is_number : Cal P w K mg base 2 "is_number" ["thing"] sp_is_number) {f : Addr} {cdv : Value} {A : Around} {outer : List Env} {s : Shared} {H : Hp} {E : XK} (hr : Room 2 (A.deeper (envOfC "are_door_numbers" (defScope s_are_door_numbers) s.heap.objs.size f cdv))) :
    PSs (cxOf CX0 P w K mg base ["size", "thing", "one"] "are_door_numbers" (defScope s_are_door_numbers) f cdv A outer s H E).nox (defBody s_are_door_numbers) (t_are_door_numbers K sp_is_number) := by
  have nd := sc_are_door_numbers.nd
  exact (pss_one (ps_ret (pe_and (pe_callB k_isi (by rfl) B.isinstance_ (by decide +kernel) (pa_cons (pv 1) (pa_cons (pe_bltn (v := .ty "tuple") (by rfl) B.tuple_ (by decide +kernel) rfl) pa_nil))) (pe_and (pe_cmpR op_eq (pe_callB k_len (by rfl) B.len_ (by decide +kernel) (pa_cons (pv 1) pa_nil)) (pv 0) (nomark _)) (pe_one (pe_callB (cr_all rfl) (by rfl) B.all_ (by decide +kernel) (pa_cons (pe_lc (own := [("one", 2)]) rfl nd (pi_tup (pv 1)) (blkOk_by (own := [("one", 2)]) (by kernel_rfl)) (fun _ _ _ _ _ => (pg_name (i := 2) nd rfl (Or.inl rfl))) (fun _ _ _ _ _ => pts_nil) (fun _ _ _ _ _ => (pe_cal c_is_number hr (by decide) (by rfl) (pa_cons (pv 2) pa_nil)))) pa_nil)))))))

abbrev s_need_door_rates : Stmt := topS 29
theorem sc_need_door_rates : FnScope ["table", "rates"] ["table", "rates"] (defScope s_need_door_rates) := ⟨rfl, rfl, rfl, by decide +kernel, rfl, by decide +kernel, by decide +kernel⟩
def t_need_door_rates (K : PySem.W.Frag) (sp_are_door_numbers : Sp) : TS := (tIfS (tNot (tB (tCall sp_are_door_numbers [] E0 (tCons (tCB (cLen K) (tCons (tVar 0) tNil)) (tCons (tVar 1) tNil))))) tNever tNext)
theorem d_need_door_rates {P : Program} {w : World} {K : PySem.W.Frag} {mg : Str → Option Value} {base : Heap} (B : Bif mg) {sp_are_door_numbers : Sp} (c_are_door_numbers : Cal P w K mg base 3 "are_door_numbers" ["size", "thing"] sp_are_door_numbers) {f : Addr} {cdv : Value} {A : Around} {outer : List Env} {s : Shared} {H : Hp} {E : XK} (hr : Room 3 (A.deeper (envOfC "need_door_rates" (defScope s_need_door_rates) s.heap.objs.size f cdv))) :
    PSs (cxOf CX0 P w K mg base ["table", "rates"] "need_door_rates" (defScope s_need_door_rates) f cdv A outer s H E).nox (defBody s_need_door_rates) (t_need_door_rates K sp_are_door_numbers) := by
  have nd := sc_need_door_rates.nd
  exact (pss_one (ps_if (pt_not (pt_val (pe_cal c_are_door_numbers hr (by decide) (by rfl) (pa_cons (pe_callB k_len (by rfl) B.len_ (by decide +kernel) (pa_cons (pv 0) pa_nil)) (pa_cons (pv 1) pa_nil))))) (pss_one ps_never) pss_nil))

abbrev s_net_worth : Stmt := topS 35
theorem sc_net_worth : FnScope ["entries", "flows", "line", "row", "many", "entry"] ["entries", "flows"] (defScope s_net_worth) := ⟨rfl, rfl, rfl, by decide +kernel, rfl, by decide +kernel, by decide +kernel⟩
def t_net_worth (K : PySem.W.Frag) : TS := (tRet (tCB (cSum K) (tCons (tLc2 (iZipM K (tCons (tVar 1) (tCons (tVar 0) tNil))) (gTup K 2 (gCons (gName 2) (gCons (gName 3) gNil))) tYes (iZipM K (tCons (tVar 2) (tCons (tVar 3) tNil))) (gTup K 2 (gCons (gName 4) (gCons (gName 5) gNil))) (tTest (tOp rGt (tVar 4) (tC (.int 0)))) (tOp rMul (tVar 4) (tVar 5)) [2, 3, 4, 5] [4, 5]) tNil)))
theorem d_net_worth {P : Program} {w : World} {K : PySem.W.Frag} {mg : Str → Option Value} {base : Heap} (B : Bif mg)  {f : Addr} {cdv : Value} {A : Around} {outer : List Env} {s : Shared} {H : Hp} {E : XK} (hr : Room 0 (A.deeper (envOfC "net_worth" (defScope s_net_worth) s.heap.objs.size f cdv))) :
    PSs (cxOf CX0 P w K mg base ["entries", "flows", "line", "row", "many", "entry"] "net_worth" (defScope s_net_worth) f cdv A outer s H E).nox (defBody s_net_worth) (t_net_worth K ) := by
  have nd := sc_net_worth.nd
  exact (pss_one (ps_ret (pe_callB (k_sum rfl) (by rfl) B.sum_ (by decide +kernel) (pa_cons (pe_lc2 (own := [("line", 2), ("row", 3), ("many", 4), ("entry", 5)]) (vs1 := [4, 5]) rfl nd (pi_zipM (by rfl) B.zip_ (pa_cons (pv 1) (pa_cons (pv 0) pa_nil))) (blkOk_by (own := [("line", 2), ("row", 3), ("many", 4), ("entry", 5)]) (by kernel_rfl)) (by decide) (fun _ _ _ _ _ => (pg_tup rfl (pgs_cons (pg_name (i := 2) nd rfl (Or.inl rfl)) (pgs_cons (pg_name (i := 3) nd rfl (Or.inl rfl)) pgs_nil)))) (fun _ _ _ _ _ => pts_nil) (fun _ _ _ _ _ => (pi_zipM (by rfl) B.zip_ (pa_cons (pv 2) (pa_cons (pv 3) pa_nil)))) (fun _ _ _ _ _ => (pg_tup rfl (pgs_cons (pg_name (i := 4) nd rfl (Or.inl rfl)) (pgs_cons (pg_name (i := 5) nd rfl (Or.inl rfl)) pgs_nil)))) (fun _ _ _ _ _ => (pts_one (pt_cmpR k_gt (pv 4) pe_int (nomark _)))) (fun _ _ _ _ _ => (pe_op k_mul (pv 4) (pv 5)))) pa_nil))))

section
variable {P : Program} {w : World} {K : PySem.W.Frag} {mg : Str → Option Value} {base : Heap}
theorem al_andT {σ : L2.St} {H : Hp} {ta tb : TE} {Pv : V → Hp → Prop} (ha : Va ta σ H (.bl true)) (hb : Al tb σ H Pv) : Al (tAndV ta tb) σ H Pv := fun Q q => ha _ ⟨true, rfl, iteT (hb Q q)⟩
/-- rates -/
structure Rates (K : PySem.W.Frag) (H : Hp) (n : Nat) (ra : Addr) (r : Nat → Int) : Prop where
  sq : SqT K H ra (tabI n r)
  nn : ∀ i, i < n → 0 ≤ r i
  lt : ∀ i, i < n → r i < 2 ^ 64
  le : n ≤ 1000
theorem Rates.mono {H H' : Hp} {n : Nat} {ra : Addr} {r : Nat → Int} (h : Rates K H n ra r) (S : Same H H') : Rates K H' n ra r := ⟨S.t h.sq, h.nn, h.lt, h.le⟩
def spAreNumbers (K : PySem.W.Frag) : Sp := fun vs H Q _ => ∃ (n : Nat) (ra : Addr) (r : Nat → Int), vs = [.int (n : Int), .ref ra] ∧ Rates K H n ra r ∧ Ret (fun v _ => v = .bl true) H Q
theorem cal_are_door_numbers (T : Txt K mg) : Cal P w K mg base 3 "are_door_numbers" ["size", "thing"] (spAreNumbers K) := by
  refine T.are_door_numbers.cal sc_are_door_numbers (fun vs H Q E h => ?_) (fun fa cdv A outer s H vs Q E hr h => ⟨_, d_are_door_numbers T.B (cal_is_number T) hr, ?_⟩)
  · obtain ⟨n, ra, r, rfl, _⟩ := h; rfl
  obtain ⟨n, ra, r, rfl, hR, q⟩ := h
  have hn := hR.le
  unfold t_are_door_numbers
  refine st_retA (al_andT (va_cb (vs_cons (va_var rfl) (vs_cons va_c vs_nil)) (vc_isi (.tup ra _ hR.sq))) (al_andT (va_is (va_op (va_cb (vs_cons (va_var rfl) vs_nil) (vc_lenTt hR.sq)) (va_var rfl) vr_eqI) (by simp)) (al_all (al_lcV (fun i => .bl (decide (0 ≤ r i))) (src_T (n := n) (f := fun i => .int (r i)) (va_var rfl) hR.sq) (fun i => rfl) (by omega) fun i H3 hi S3 => al_va (va_call (vs_cons (va_var rfl) vs_nil) fun Q E q => ⟨r i, rfl, q⟩))))) fun v H1 S1 e => q v H1 S1 ?_
  rw [e, all_true fun i hi => decide_eq_true (hR.nn i hi)]
def spNeedRates (K : PySem.W.Frag) : Sp := fun vs H Q _ => ∃ (n : Nat) (a ra : Addr) (g : Gr) (r : Nat → Int), vs = [.ref a, .ref ra] ∧ TR K H a n n (oI g) ∧ Rates K H n ra r ∧ Ret (fun v _ => v = .non) H Q
theorem cal_need_door_rates (T : Txt K mg) : Cal P w K mg base 4 "need_door_rates" ["table", "rates"] (spNeedRates K) := by
  refine T.need_door_rates.cal sc_need_door_rates (fun vs H Q E h => ?_) (fun fa cdv A outer s H vs Q E hr h => ⟨_, d_need_door_rates T.B (cal_are_door_numbers T) hr, ?_⟩)
  · obtain ⟨n, a, ra, g, r, rfl, _⟩ := h; rfl
  obtain ⟨n, a, ra, g, r, rfl, hT, hR, q⟩ := h
  unfold t_need_door_rates
  refine st_ifFA (at_is (at_not (at_B (b := true) (al_call (P := fun v _ => v = .bl true) (vs_cons (va_cb (vs_cons (va_var rfl) vs_nil) (vc_lenTT hT)) (vs_cons (va_var rfl) vs_nil)) fun Q E r2 => ⟨n, ra, r, rfl, hR, r2⟩))) rfl) fun H1 S1 => q .non H1 S1 rfl
theorem al_nr {σ : L2.St} {H : Hp} {n : Nat} {a ra : Addr} {g : Gr} {r : Nat → Int} {ta tb : TE} (hT : TR K H a n n (oI g)) (hR : Rates K H n ra r) (ha : Va ta σ H (.ref a)) (hb : Va tb σ H (.ref ra)) : Al (tCall (spNeedRates K) [] E0 (tCons ta (tCons tb tNil))) σ H (fun v _ => v = .non) :=
  al_call (vs_cons ha (vs_cons hb vs_nil)) fun Q E q => ⟨n, a, ra, g, r, rfl, hT, hR, q⟩
/-- what a dealing is worth -/
def spWorth (K : PySem.W.Frag) : Sp := fun vs H Q _ => ∃ (n : Nat) (a fl : Addr) (e : Gr) (f : Fl), vs = [.ref a, .ref fl] ∧ TR K H a n n (oI e) ∧ LL K H fl n n (fun i j => .int (f i j)) ∧ n ≤ 1000 ∧ (∀ i j, i < n → j < n → 0 ≤ f i j ∧ f i j < 2 ^ 64) ∧ (∀ i j, i < n → j < n → 0 < f i j → ∃ w, e i j = some w) ∧ Ret (fun v _ => v = .int (worth n e f)) H Q
theorem cal_net_worth (T : Txt K mg) : Cal P w K mg base 1 "net_worth" ["entries", "flows"] (spWorth K) := by
  refine T.net_worth.cal sc_net_worth (fun vs H Q E h => ?_) (fun fa cdv A outer s H vs Q E hr h => ⟨_, d_net_worth T.B hr, ?_⟩)
  · obtain ⟨n, a, fl, e, f, rfl, _⟩ := h; rfl
  obtain ⟨n, a, fl, e, f, rfl, ⟨tad, hT1, hT2⟩, ⟨ad, hF1, hF2⟩, hn, h0, hpos, q⟩ := h
  unfold t_net_worth
  have hlist : Al (tLc2 (iZipM K (tCons (tVar 1) (tCons (tVar 0) tNil))) (gTup K 2 (gCons (gName 2) (gCons (gName 3) gNil))) tYes (iZipM K (tCons (tVar 2) (tCons (tVar 3) tNil))) (gTup K 2 (gCons (gName 4) (gCons (gName 5) gNil))) (tTest (tOp rGt (tVar 4) (tC (.int 0)))) (tOp rMul (tVar 4) (tVar 5)) [2, 3, 4, 5] [4, 5]) [some (.ref a), some (.ref fl), none, none, none, none] H
      (fun v H' => ∃ (p : Addr) (L : List Int), v = .ref p ∧ H' p = some (.lst (L.map V.int)) ∧ L.sum = worth n e f) := by
    intro Q q
    unfold tLc2 iZipM
    refine (vs_cons (va_var rfl) (vs_cons (va_var rfl) vs_nil) : Vs (tCons (tVar 1) (tCons (tVar 0) tNil)) [some (.ref a), some (.ref fl), none, none, none, none] H [.ref fl, .ref a]) _ ⟨fl, a, _, _, rfl, hF1, hT1, fun D hD => ?_⟩
    let IN : Int → Nat → Hp → Prop := fun S b H' => ∃ L : List Int, Same H H' ∧ H' D = some (.lst (L.map V.int)) ∧ L.sum = S ∧ L.length ≤ b
    have hwr : ∀ i j, i < n → j < n → ∀ (σ : L2.St) (H' : Hp), σ[4]? = some (some (.int (f i j))) → σ[5]? = some (some (oV (e i j))) → 0 < f i j → Va (tOp rMul (tVar 4) (tVar 5)) σ H' (.int (f i j * (e i j).getD 0)) := fun i j hi hj σ H' h4 h5 hf => by
      obtain ⟨w, hw⟩ := hpos i j hi hj hf
      have hb := h0 i j hi hj
      rw [hw] at h5 ⊢
      exact va_op (va_var h4) (va_var (v := .int w) h5) (vr_mul (.inl ⟨Int.lt_of_lt_of_le (show -(2 : Int) ^ 64 < 0 by decide) hb.1, hb.2⟩))
    have step : ∀ {S : Int} {b : Nat} {H' : Hp}, IN S b H' → b < 2000000 → ∀ z, ∃ acc, H' D = some (.lst acc) ∧ acc.length < sizeLine ∧ IN (S + z) (b + 1) (upd H' D (.lst (acc ++ [.int z]))) := fun {S b H'} ⟨L, S1, hL, hs, hb⟩ hb2 z => by
      refine ⟨L.map V.int, hL, by rw [List.length_map, sizeLine_eq]; omega, L ++ [z], same_mut S1 hD, ?_, ?_, ?_⟩
      · rw [upd_same, List.map_append]; rfl
      · rw [List.sum_append, hs]; simp
      · rw [List.length_append]; exact Nat.succ_le_succ hb
    let S1 : Nat → Int := fun i => sumN i fun i => sumN n fun j => f i j * (e i j).getD 0
    let S2 : Nat → Nat → Int := fun i j => sumN j fun j => f i j * (e i j).getD 0
    have nb : ∀ i, i ≤ n → i * n ≤ 1000 * 1000 → True := fun _ _ _ => trivial
    refine ⟨fun i m H' => m = n - i ∧ i ≤ n ∧ IN (S1 i) (i * n) H', ⟨n, rfl, Nat.zero_le n, [], same_new hD, upd_same, rfl, Nat.zero_le _⟩, ?_⟩
    rintro i m H' ⟨rfl, hi, IH⟩
    by_cases hlt : i < n
    · obtain ⟨L0, SL, _⟩ := id IH
      refine .inr ⟨⟨_, _, _, _, SL.l hF1, SL.t hT1, tab_get hlt, tab_get hlt⟩, IN (S1 (i + 1)) ((i + 1) * n), fun H2 h2 => ⟨n - (i + 1), by omega, rfl, hlt, h2⟩, fun x H2 yl => ?_⟩
      obtain ⟨T1, u1, u2, rfl, hT, rfl, e1, e2⟩ := yl
      have e1 := e1 _ (SL.l hF1)
      have e2 := e2 _ (SL.t hT1)
      rw [tab_get hlt] at e1 e2
      cases e1
      cases e2
      refine g_pair (SqT.of upd_same) ⟨rfl, ?_⟩
      unfold tYes
      dsimp only
      rw [if_pos rfl]
      have SA := SL.trans (same_new (o := .tup [.ref (ad i), .ref (tad i)]) hT)
      show tCons (tVar 2) (tCons (tVar 3) tNil) _ _ _
      refine (vs_cons (va_var rfl) (vs_cons (va_var rfl) vs_nil) : Vs (tCons (tVar 2) (tCons (tVar 3) tNil)) [some (.ref a), some (.ref fl), some (.ref (ad i)), some (.ref (tad i)), none, none] _ [.ref (ad i), .ref (tad i)]) _ ⟨ad i, tad i, _, _, rfl, SA.l (hF2 i hlt), SA.t (hT2 i hlt), ?_⟩
      refine ⟨fun j m H' => m = n - j ∧ j ≤ n ∧ IN (S1 i + S2 i j) (i * n + j) H', ⟨n, rfl, Nat.zero_le n, ?_⟩, ?_⟩
      · obtain ⟨L, a1, a2, a3, a4⟩ := IH
        exact ⟨L, SA, same_new hT _ _ a2, by rw [a3]; show S1 i = S1 i + 0; omega, a4⟩
      rintro j m H5 ⟨rfl, hj, IJ⟩
      by_cases hjlt : j < n
      · obtain ⟨L5, SL5, _⟩ := id IJ
        refine .inr ⟨⟨_, _, _, _, SL5.l (hF2 i hlt), SL5.t (hT2 i hlt), tab_get hjlt, tab_get hjlt⟩, IN (S1 i + S2 i (j + 1)) (i * n + (j + 1)), fun H2 h2 => ⟨n - (j + 1), by omega, rfl, hjlt, h2⟩, fun x H6 yl => ?_⟩
        obtain ⟨T2, u1, u2, rfl, hT', rfl, e1, e2⟩ := yl
        have e1 := e1 _ (SL5.l (hF2 i hlt))
        have e2 := e2 _ (SL5.t (hT2 i hlt))
        rw [tab_get hjlt] at e1 e2
        cases e1
        cases e2
        refine g_pair (SqT.of upd_same) ⟨rfl, ?_⟩
        have IJ2 : IN (S1 i + S2 i j) (i * n + j) (upd H5 T2 (.tup [.int (f i j), oV (e i j)])) := by
          obtain ⟨L, a1, a2, a3, a4⟩ := IJ
          exact ⟨L, a1.trans (same_new hT'), same_new hT' _ _ a2, a3, a4⟩
        have hb : i * n + j < 1000000 + 1000 := by
          have := Nat.mul_le_mul (Nat.le_of_lt (Nat.lt_of_lt_of_le hlt hn)) hn
          omega
        refine vt_test (va_op (va_var (v := .int (f i j)) rfl) va_c vr_gt) _ ?_
        have hadd : S1 i + S2 i (j + 1) = S1 i + S2 i j + f i j * (e i j).getD 0 := by
          show S1 i + (S2 i j + f i j * (e i j).getD 0) = _
          omega
        by_cases hp : 0 < f i j
        · rw [decide_eq_true hp]
          refine iteT (hwr i j hlt hjlt _ _ rfl rfl hp _ ?_)
          rw [hadd]
          exact step IJ2 (by omega) _
        · rw [decide_eq_false hp]
          refine iteF ?_
          have hz : f i j = 0 := by have := (h0 i j hlt hjlt).1; omega
          rw [hadd, hz, Int.zero_mul, Int.add_zero]
          obtain ⟨L, a1, a2, a3, a4⟩ := IJ2
          exact ⟨L, a1, a2, a3, by omega⟩
      · have ej : j = n := by omega
        subst ej
        obtain ⟨L5, SL5, a2, a3, a4⟩ := IJ
        refine .inl ⟨⟨_, _, SL5.l (hF2 i hlt), SL5.t (hT2 i hlt), tab_len .., tab_len ..⟩, L5, SL5, a2, a3, ?_⟩
        rw [Nat.succ_mul]; exact a4
    · have ei : i = n := by omega
      subst ei
      obtain ⟨L, SL, a2, a3, a4⟩ := IH
      exact .inl ⟨⟨_, _, SL.l hF1, SL.t hT1, tab_len .., tab_len ..⟩, q _ H' SL ⟨D, L, rfl, a2, a3⟩⟩
  exact st_retA (al_cb1 (P2 := fun v _ => v = .int (worth n e f)) hlist fun v H1 S1 ⟨p, L, ev, hp, hs⟩ Q2 q2 => ⟨p, L, by rw [ev], .inl (SqL.of hp), q2 _ H1 (Same.refl _) (by rw [hs])⟩) fun v H1 S1 e => q v H1 S1 e
end
end K45
set_option Elab.async false
set_option linter.all false
set_option maxRecDepth 100000
set_option maxHeartbeats 200000
namespace K45
open PySem PySem.Spec PyProof.Rows L2
abbrev s_deal_paper : Stmt := topS 38
theorem sc_deal_paper : FnScope ["table", "rates", "flows", "rows", "columns", "waits", "row", "column"] ["table", "rates"] (defScope s_deal_paper) := ⟨rfl, rfl, rfl, by decide +kernel, rfl, by decide +kernel, by decide +kernel⟩
def t_deal_paper (K : PySem.W.Frag) (sp_need_door_rates sp_net_deal sp_net_heights : Sp) : TS := (tSeq (tDrop (tCall sp_need_door_rates [] E0 (tCons (tVar 0) (tCons (tVar 1) tNil))))
    (tSeq (tAsg (tCall sp_net_deal [] E0 (tCons (tVar 0) (tCons (tVar 1) tNil))) (gName 2))
    (tSeq (tAsg (tCall sp_net_heights [] E0 (tCons (tVar 0) (tCons (tVar 2) tNil))) (gTup K 2 (gCons (gName 3) (gCons (gName 4) gNil))))
    (tSeq (tAsg (tCB (cTup K) (tCons (tLc (iZip K (tCons (tVar 3) (tCons (tVar 4) tNil))) (gTup K 2 (gCons (gName 6) (gCons (gName 7) gNil))) tYes (tOp rSub (tVar 7) (tVar 6)) [6, 7]) tNil)) (gName 5))
    (tRet (tTup (tCons (tVar 5) (tCons (tCB (cTup K) (tCons (tVar 4) tNil)) (tCons (tCB (cTup K) (tCons (tLc (iList K (tVar 2)) (gName 6) tYes (tCB (cTup K) (tCons (tVar 6) tNil)) [6]) tNil)) tNil)))))))))
theorem d_deal_paper {P : Program} {w : World} {K : PySem.W.Frag} {mg : Str → Option Value} {base : Heap} (B : Bif mg) {sp_need_door_rates sp_net_deal sp_net_heights : Sp} (c_need_door_rates : Cal P w K mg base 4 "need_door_rates" ["table", "rates"] sp_need_door_rates) (c_net_deal : Cal P w K mg base 4 "net_deal" ["entries", "rates"] sp_net_deal) (c_net_heights : Cal P w K mg base 3 "net_heights" ["entries", "flows"] sp_net_heights) {f : Addr} {cdv : Value} {A : Around} {outer : List Env} {s : Shared} {H : Hp} {E : XK} (hr : Room 4 (A.deeper (envOfC "deal_paper" (defScope s_deal_paper) s.heap.objs.size f cdv))) :
    PSs (cxOf CX0 P w K mg base ["table", "rates", "flows", "rows", "columns", "waits", "row", "column"] "deal_paper" (defScope s_deal_paper) f cdv A outer s H E).nox (defBody s_deal_paper) (t_deal_paper K sp_need_door_rates sp_net_deal sp_net_heights) := by
  have nd := sc_deal_paper.nd
  exact (pss_cons (ps_expr (pe_cal c_need_door_rates hr (by decide) (by rfl) (pa_cons (pv 0) (pa_cons (pv 1) pa_nil))))
      (pss_cons (ps_set (i := 2) nd rfl (Or.inl rfl) (pe_cal c_net_deal hr (by decide) (by rfl) (pa_cons (pv 0) (pa_cons (pv 1) pa_nil))))
      (pss_cons (ps_asg (pe_cal c_net_heights hr (by decide) (by rfl) (pa_cons (pv 0) (pa_cons (pv 2) pa_nil))) (pg_tup rfl (pgs_cons (pg_name (i := 3) nd rfl (Or.inl rfl)) (pgs_cons (pg_name (i := 4) nd rfl (Or.inl rfl)) pgs_nil))))
      (pss_cons (ps_set (i := 5) nd rfl (Or.inl rfl) (pe_callTy k_tuple (by rfl) B.tuple_ (by decide +kernel) (pa_cons (pe_lc (own := [("row", 6), ("column", 7)]) rfl nd (pi_zip (by rfl) B.zip_ (pa_cons (pv 3) (pa_cons (pv 4) pa_nil))) (blkOk_by (own := [("row", 6), ("column", 7)]) (by kernel_rfl)) (fun _ _ _ _ _ => (pg_tup rfl (pgs_cons (pg_name (i := 6) nd rfl (Or.inl rfl)) (pgs_cons (pg_name (i := 7) nd rfl (Or.inl rfl)) pgs_nil)))) (fun _ _ _ _ _ => pts_nil) (fun _ _ _ _ _ => (pe_op k_sub (pv 7) (pv 6)))) pa_nil)))
      (pss_one (ps_ret (pe_tup (pa_cons (pv 5) (pa_cons (pe_callTy k_tuple (by rfl) B.tuple_ (by decide +kernel) (pa_cons (pv 4) pa_nil)) (pa_cons (pe_callTy k_tuple (by rfl) B.tuple_ (by decide +kernel) (pa_cons (pe_lc (own := [("row", 6)]) rfl nd (pi_list (pv 2)) (blkOk_by (own := [("row", 6)]) (by kernel_rfl)) (fun _ _ _ _ _ => (pg_name (i := 6) nd rfl (Or.inl rfl))) (fun _ _ _ _ _ => pts_nil) (fun _ _ _ _ _ => (pe_callTy k_tuple (by rfl) B.tuple_ (by decide +kernel) (pa_cons (pv 6) pa_nil)))) pa_nil)) pa_nil))))))))))

abbrev s_cheapest_waits : Stmt := topS 39
theorem sc_cheapest_waits : FnScope ["table", "rates"] ["table", "rates"] (defScope s_cheapest_waits) := ⟨rfl, rfl, rfl, by decide +kernel, rfl, by decide +kernel, by decide +kernel⟩
def t_cheapest_waits (K : PySem.W.Frag) (sp_deal_paper : Sp) : TS := (tRet (tOp (rIx K) (tCall sp_deal_paper [] E0 (tCons (tVar 0) (tCons (tVar 1) tNil))) (tC (.int 0))))
theorem d_cheapest_waits {P : Program} {w : World} {K : PySem.W.Frag} {mg : Str → Option Value} {base : Heap} (B : Bif mg) {sp_deal_paper : Sp} (c_deal_paper : Cal P w K mg base 5 "deal_paper" ["table", "rates"] sp_deal_paper) {f : Addr} {cdv : Value} {A : Around} {outer : List Env} {s : Shared} {H : Hp} {E : XK} (hr : Room 5 (A.deeper (envOfC "cheapest_waits" (defScope s_cheapest_waits) s.heap.objs.size f cdv))) :
    PSs (cxOf CX0 P w K mg base ["table", "rates"] "cheapest_waits" (defScope s_cheapest_waits) f cdv A outer s H E).nox (defBody s_cheapest_waits) (t_cheapest_waits K sp_deal_paper) := by
  have nd := sc_cheapest_waits.nd
  exact (pss_one (ps_ret (pe_ix ix_seq (pe_cal c_deal_paper hr (by decide) (by rfl) (pa_cons (pv 0) (pa_cons (pv 1) pa_nil))) pe_int (fun _ _ => rfl))))

abbrev s_dearest_dealing : Stmt := topS 45
theorem sc_dearest_dealing : FnScope ["table", "rates", "row"] ["table", "rates"] (defScope s_dearest_dealing) := ⟨rfl, rfl, rfl, by decide +kernel, rfl, by decide +kernel, by decide +kernel⟩
def t_dearest_dealing (K : PySem.W.Frag) (sp_need_door_rates sp_net_deal : Sp) : TS := (tSeq (tDrop (tCall sp_need_door_rates [] E0 (tCons (tVar 0) (tCons (tVar 1) tNil))))
    (tRet (tCB (cTup K) (tCons (tLc (iList K (tCall sp_net_deal [] E0 (tCons (tVar 0) (tCons (tVar 1) tNil)))) (gName 2) tYes (tCB (cTup K) (tCons (tVar 2) tNil)) [2]) tNil))))
theorem d_dearest_dealing {P : Program} {w : World} {K : PySem.W.Frag} {mg : Str → Option Value} {base : Heap} (B : Bif mg) {sp_need_door_rates sp_net_deal : Sp} (c_need_door_rates : Cal P w K mg base 4 "need_door_rates" ["table", "rates"] sp_need_door_rates) (c_net_deal : Cal P w K mg base 4 "net_deal" ["entries", "rates"] sp_net_deal) {f : Addr} {cdv : Value} {A : Around} {outer : List Env} {s : Shared} {H : Hp} {E : XK} (hr : Room 4 (A.deeper (envOfC "dearest_dealing" (defScope s_dearest_dealing) s.heap.objs.size f cdv))) :
    PSs (cxOf CX0 P w K mg base ["table", "rates", "row"] "dearest_dealing" (defScope s_dearest_dealing) f cdv A outer s H E).nox (defBody s_dearest_dealing) (t_dearest_dealing K sp_need_door_rates sp_net_deal) := by
  have nd := sc_dearest_dealing.nd
  exact (pss_cons (ps_expr (pe_cal c_need_door_rates hr (by decide) (by rfl) (pa_cons (pv 0) (pa_cons (pv 1) pa_nil))))
      (pss_one (ps_ret (pe_callTy k_tuple (by rfl) B.tuple_ (by decide +kernel) (pa_cons (pe_lc (own := [("row", 2)]) rfl nd (pi_list (pe_cal c_net_deal hr (by decide) (by rfl) (pa_cons (pv 0) (pa_cons (pv 1) pa_nil)))) (blkOk_by (own := [("row", 2)]) (by kernel_rfl)) (fun _ _ _ _ _ => (pg_name (i := 2) nd rfl (Or.inl rfl))) (fun _ _ _ _ _ => pts_nil) (fun _ _ _ _ _ => (pe_callTy k_tuple (by rfl) B.tuple_ (by decide +kernel) (pa_cons (pv 2) pa_nil)))) pa_nil)))))

abbrev s_least_cost : Stmt := topS 46
theorem sc_least_cost : FnScope ["table", "rates"] ["table", "rates"] (defScope s_least_cost) := ⟨rfl, rfl, rfl, by decide +kernel, rfl, by decide +kernel, by decide +kernel⟩
def t_least_cost (K : PySem.W.Frag) (sp_need_door_rates sp_net_worth sp_net_deal : Sp) : TS := (tSeq (tDrop (tCall sp_need_door_rates [] E0 (tCons (tVar 0) (tCons (tVar 1) tNil))))
    (tRet (tCall sp_net_worth [] E0 (tCons (tVar 0) (tCons (tCall sp_net_deal [] E0 (tCons (tVar 0) (tCons (tVar 1) tNil))) tNil)))))
theorem d_least_cost {P : Program} {w : World} {K : PySem.W.Frag} {mg : Str → Option Value} {base : Heap} (B : Bif mg) {sp_need_door_rates sp_net_worth sp_net_deal : Sp} (c_need_door_rates : Cal P w K mg base 4 "need_door_rates" ["table", "rates"] sp_need_door_rates) (c_net_worth : Cal P w K mg base 1 "net_worth" ["entries", "flows"] sp_net_worth) (c_net_deal : Cal P w K mg base 4 "net_deal" ["entries", "rates"] sp_net_deal) {f : Addr} {cdv : Value} {A : Around} {outer : List Env} {s : Shared} {H : Hp} {E : XK} (hr : Room 4 (A.deeper (envOfC "least_cost" (defScope s_least_cost) s.heap.objs.size f cdv))) :
    PSs (cxOf CX0 P w K mg base ["table", "rates"] "least_cost" (defScope s_least_cost) f cdv A outer s H E).nox (defBody s_least_cost) (t_least_cost K sp_need_door_rates sp_net_worth sp_net_deal) := by
  have nd := sc_least_cost.nd
  exact (pss_cons (ps_expr (pe_cal c_need_door_rates hr (by decide) (by rfl) (pa_cons (pv 0) (pa_cons (pv 1) pa_nil))))
      (pss_one (ps_ret (pe_cal c_net_worth hr (by decide) (by rfl) (pa_cons (pv 0) (pa_cons (pe_cal c_net_deal hr (by decide) (by rfl) (pa_cons (pv 0) (pa_cons (pv 1) pa_nil))) pa_nil))))))

section
variable {P : Program} {w : World} {K : PySem.W.Frag} {mg : Str → Option Value} {base : Heap}
theorem al_lcC {σ : L2.St} {H : Hp} {te e : TE} {g : TG} {tt : TT} {vs : List Nat} {Pv P2 : V → Hp → Prop} (h : Al te σ H Pv) (k : ∀ v H1, Same H H1 → Pv v H1 → Al (tLc (iList K (tC v)) g tt e vs) σ H1 P2) : Al (tLc (iList K te) g tt e vs) σ H P2 := fun Q q =>
  h _ fun v H1 S p => k v H1 S p Q fun w H2 S2 p2 => q w H2 (S.trans S2) p2
/-- a table and rates -/
structure TRt (K : PySem.W.Frag) (H : Hp) (n : Nat) (a ra : Addr) (g : Gr) (r : Nat → Int) : Prop where
  tab : TR K H a n n (oI g)
  rt : Rates K H n ra r
  dg : ∀ i, i < n → g i i = some 0
theorem TRt.mono {H H' : Hp} {n : Nat} {a ra : Addr} {g : Gr} {r : Nat → Int} (h : TRt K H n a ra g r) (S : Same H H') : TRt K H' n a ra g r := ⟨S.tt h.tab, h.rt.mono S, h.dg⟩
abbrev IsDeal (H : Hp) (n : Nat) (g : Gr) (r : Nat → Int) : V → Hp → Prop := fun v H' => ∃ fl ad f, v = .ref fl ∧ MM H' fl n n ad (fun i j => .int (f i j)) ∧ H fl = none ∧ (∀ i, i < n → H (ad i) = none) ∧ Dealt n g r f
theorem al_deal {σ : L2.St} {H : Hp} {n : Nat} {a ra : Addr} {g : Gr} {r : Nat → Int} {ta tb : TE} (hT : TRt K H n a ra g r) (ha : Va ta σ H (.ref a)) (hb : Va tb σ H (.ref ra)) : Al (tCall (spDeal K) [] E0 (tCons ta (tCons tb tNil))) σ H (IsDeal H n g r) :=
  al_call (vs_cons ha (vs_cons hb vs_nil)) fun Q E q => ⟨n, a, ra, g, r, rfl, hT.tab, hT.rt.sq, hT.rt.le, hT.dg, hT.rt.nn, q⟩
/-- [tuple(row) for row in flows] as a tuple -/
theorem al_tups {σ : L2.St} {H : Hp} {n j : Nat} {fl : Addr} {ad : Nat → Addr} {F : Nat → Nat → V} {te : TE} (hn : n ≤ 1000) (hj : j < σ.length) (h : Va te σ H (.ref fl)) (hM : MM H fl n n ad F) :
    Al (tCB (cTup K) (tCons (tLc (iList K te) (gName j) tYes (tCB (cTup K) (tCons (tVar j) tNil)) [j]) tNil)) σ H (IsTR K n n F) :=
  al_tupNews (al_lcN (fun i => .tup (tab n (F i))) (src_L (n := n) (f := fun i => .ref (ad i)) h (SqL.of hM.1)) (fun i => by
      apply List.ext_getElem?
      intro k
      rw [wipe_get, wipe_get, List.getElem?_set]
      by_cases e : j = k
      · subst e
        rw [if_pos (List.mem_singleton.mpr rfl), if_pos rfl, wipe_length, if_pos hj, if_pos (List.mem_singleton.mpr rfl), List.getElem?_eq_getElem hj]; rfl
      · rw [if_neg e, wipe_get]
        by_cases e2 : k ∈ [j]
        · exact absurd (List.mem_singleton.mp e2).symm e
        · rw [if_neg e2, if_neg e2]) (by omega) fun i H1 hi S1 => Al.imp (al_tupL (va_var (v := .ref (ad i)) (by
      rw [List.getElem?_set_self (by rw [wipe_length]; exact hj)])) (SqL.of (S1 _ _ (hM.2.1 i hi)))) fun v H2 S2 ⟨p, e1, e2, e3⟩ => ⟨p, e1, e2, e3⟩)
/-- waits of least cost -/
def IsCheap (K : PySem.W.Frag) (n : Nat) (g : Gr) (r : Nat → Int) : V → Hp → Prop := fun v H' => ∃ p t, v = .ref p ∧ SqT K H' p (tabI n t) ∧ Cheap n g r t
def spPaper (K : PySem.W.Frag) : Sp := fun vs H Q _ => ∃ (n : Nat) (a ra : Addr) (g : Gr) (r : Nat → Int), vs = [.ref a, .ref ra] ∧ TRt K H n a ra g r ∧
  Ret (fun v H' => ∃ q x y z, v = .ref q ∧ SqT K H' q [x, y, z] ∧ IsCheap K n g r x H') H Q
theorem cal_deal_paper (T : Txt K mg) : Cal P w K mg base 5 "deal_paper" ["table", "rates"] (spPaper K) := by
  refine T.deal_paper.cal sc_deal_paper (fun vs H Q E h => ?_) (fun fa cdv A outer s H vs Q E hr h => ⟨_, d_deal_paper T.B (cal_need_door_rates T) (cal_net_deal T) (cal_net_heights T) hr, ?_⟩)
  · obtain ⟨n, a, ra, g, r, rfl, _⟩ := h; rfl
  obtain ⟨n, a, ra, g, r, rfl, hT, q⟩ := h
  have hn := hT.rt.le
  unfold t_deal_paper
  refine q_dropA (al_nr hT.tab hT.rt (va_var rfl) (va_var rfl)) fun v H1 S1 _ => ?_
  have hT1 := hT.mono S1
  refine q_asgA (al_deal hT1 (va_var rfl) (va_var rfl)) fun v H2 S2 ⟨fl, ad, f, ev, hM, _, _, hD⟩ => ?_
  subst ev
  have hT2 := hT1.mono S2
  refine q_asg2 (P := fun v H' => ∃ q rA cA U V, v = .ref q ∧ SqT K H' q [.ref rA, .ref cA] ∧ H' rA = some (.lst (tabI n U)) ∧ H' cA = some (.lst (tabI n V)) ∧ Opt n g f U V) (al_call (vs_cons (va_var rfl) (vs_cons (va_var rfl) vs_nil)) fun Q E q => ⟨n, a, fl, ad, g, f, rfl, hT2.tab, hM, hn, hD.opt, q⟩) fun v H3 S3 ⟨qq, rA, cA, U, V, ev, hq, hr3, hc3, ho⟩ => ⟨qq, .ref rA, .ref cA, ev, hq, ?_⟩
  refine q_asgA (P := IsNewT H3 (tabI n fun i => V i - U i)) (al_tupN (al_lcV (fun i => .int (V i - U i)) (src_Z (n := n) (f := fun i => .int (U i)) (g := fun i => .int (V i)) (va_var rfl) (va_var rfl) (SqL.of hr3) (SqL.of hc3)) (fun _ => rfl) (by omega) fun i H4 hi S4 => al_va (va_op (va_var (v := .int (V i)) rfl) (va_var (v := .int (U i)) rfl) vr_sub))) fun v H4 S4 ⟨wt, ev, _, hw⟩ => ?_
  subst ev
  have hCh := hD.cheap hT.dg ho
  have hM4 := (S3.trans S4).mm hM
  have hc4 := S4 _ _ hc3
  refine st_retA (P := fun v H' => ∃ q x y z, v = .ref q ∧ SqT K H' q [x, y, z] ∧ IsCheap K n g r x H') (fun Q6 q6 => ?_) fun v H5 S5 p => q v H5 ((((S1.trans S2).trans S3).trans S4).trans S5) p
  show tCons (tVar 5) _ _ _ _
  refine va_var (v := .ref wt) rfl _ ?_
  refine al_tupL (K := K) (va_var (v := .ref cA) rfl) (SqL.of hc4) _ fun v5 H5 S5 p5 => ?_
  refine al_tups (K := K) (n := n) (j := 6) (ad := ad) (F := fun i j => .int (f i j)) hn (by show 6 < 8; omega) (va_var (v := .ref fl) rfl) (S5.mm hM4) _ fun v6 H6 S6 p6 => ?_
  refine ⟨by show 3 ≤ sizeLine; decide, fun p hp => q6 _ _ ((S5.trans S6).trans (same_new hp)) ⟨p, _, _, _, rfl, SqT.of upd_same, wt, _, rfl, ?_, hCh⟩⟩
  exact SqT.of ((same_new hp) _ _ (S6 _ _ (S5 _ _ hw)))
def spCheapest (K : PySem.W.Frag) : Sp := fun vs H Q _ => ∃ (n : Nat) (a ra : Addr) (g : Gr) (r : Nat → Int), vs = [.ref a, .ref ra] ∧ TRt K H n a ra g r ∧ Ret (IsCheap K n g r) H Q
theorem cal_cheapest_waits (T : Txt K mg) : Cal P w K mg base 6 "cheapest_waits" ["table", "rates"] (spCheapest K) := by
  refine T.cheapest_waits.cal sc_cheapest_waits (fun vs H Q E h => ?_) (fun fa cdv A outer s H vs Q E hr h => ⟨_, d_cheapest_waits T.B (cal_deal_paper T) hr, ?_⟩)
  · obtain ⟨n, a, ra, g, r, rfl, _⟩ := h; rfl
  obtain ⟨n, a, ra, g, r, rfl, hT, q⟩ := h
  unfold t_cheapest_waits
  refine st_retA (P := IsCheap K n g r) (al_opc (al_call (P := fun v H' => ∃ q x y z, v = .ref q ∧ SqT K H' q [x, y, z] ∧ IsCheap K n g r x H') (vs_cons (va_var rfl) (vs_cons (va_var rfl) vs_nil)) fun Q E q => ⟨n, a, ra, g, r, rfl, hT, q⟩) fun v H1 S1 ⟨qq, x, y, z, ev, hq, hx⟩ => ⟨x, by rw [ev]; exact vr_xT hq rfl, hx⟩) fun v H1 S1 p => q v H1 S1 p
/-- a dealing of greatest worth, as a tuple -/
def IsDealT (K : PySem.W.Frag) (n : Nat) (g : Gr) (r : Nat → Int) : V → Hp → Prop := fun v H' => ∃ f, IsTR K n n (fun i j => .int (f i j)) v H' ∧ Dealt n g r f
def spDearest (K : PySem.W.Frag) : Sp := fun vs H Q _ => ∃ (n : Nat) (a ra : Addr) (g : Gr) (r : Nat → Int), vs = [.ref a, .ref ra] ∧ TRt K H n a ra g r ∧ Ret (IsDealT K n g r) H Q
theorem cal_dearest_dealing (T : Txt K mg) : Cal P w K mg base 5 "dearest_dealing" ["table", "rates"] (spDearest K) := by
  refine T.dearest_dealing.cal sc_dearest_dealing (fun vs H Q E h => ?_) (fun fa cdv A outer s H vs Q E hr h => ⟨_, d_dearest_dealing T.B (cal_need_door_rates T) (cal_net_deal T) hr, ?_⟩)
  · obtain ⟨n, a, ra, g, r, rfl, _⟩ := h; rfl
  obtain ⟨n, a, ra, g, r, rfl, hT, q⟩ := h
  have hn := hT.rt.le
  unfold t_dearest_dealing
  refine q_dropA (al_nr hT.tab hT.rt (va_var rfl) (va_var rfl)) fun v H1 S1 _ => ?_
  have hT1 := hT.mono S1
  refine st_retA (P := IsDealT K n g r) (fun Q6 q6 => ?_) fun v H2 S2 p => q v H2 (S1.trans S2) p
  show tCall _ _ _ _ _ _ _
  refine al_deal hT1 (va_var rfl) (va_var rfl) _ fun v H2 S2 ⟨fl, ad, f, ev, hM, _, _, hD⟩ => ?_
  subst ev
  exact al_tups (K := K) (n := n) (j := 2) (ad := ad) (F := fun i j => .int (f i j)) (te := tC (.ref fl)) hn (by show 2 < 3; omega) va_c hM _ fun v3 H3 S3 p3 => q6 v3 H3 (S2.trans S3) ⟨f, p3, hD⟩
def spLeastCost (K : PySem.W.Frag) : Sp := fun vs H Q _ => ∃ (n : Nat) (a ra : Addr) (g : Gr) (r : Nat → Int), vs = [.ref a, .ref ra] ∧ TRt K H n a ra g r ∧ Ret (fun v _ => ∃ f, v = .int (worth n g f) ∧ Dealt n g r f) H Q
theorem Dealt.le {n : Nat} {g : Gr} {r : Nat → Int} {f : Fl} (h : Dealt n g r f) {i j : Nat} (hi : i < n) (hj : j < n) : f i j ≤ r i := by
  have h1 := h.row i hi
  have h2 : sumN n (up (fun _ => 0) j (f i j)) ≤ sumN n (f i) := sumN_le fun k hk => by
    by_cases c : k = j
    · subst c; rw [up_same]; exact Int.le_refl _
    · rw [up_ne c]; exact h.nn i k hi hk
  have h3 := sumN_up (n := n) (j := j) (f := fun _ => 0) (v := f i j) hj
  have h4 : sumN n (fun _ => (0 : Int)) = 0 := sumN_zero fun _ _ => rfl
  omega
theorem cal_least_cost (T : Txt K mg) : Cal P w K mg base 5 "least_cost" ["table", "rates"] (spLeastCost K) := by
  refine T.least_cost.cal sc_least_cost (fun vs H Q E h => ?_) (fun fa cdv A outer s H vs Q E hr h => ⟨_, d_least_cost T.B (cal_need_door_rates T) (cal_net_worth T) (cal_net_deal T) hr, ?_⟩)
  · obtain ⟨n, a, ra, g, r, rfl, _⟩ := h; rfl
  obtain ⟨n, a, ra, g, r, rfl, hT, q⟩ := h
  have hn := hT.rt.le
  unfold t_least_cost
  refine q_dropA (al_nr hT.tab hT.rt (va_var rfl) (va_var rfl)) fun v H1 S1 _ => ?_
  have hT1 := hT.mono S1
  refine st_retA (al_callA (Pa := fun vs H2 => ∃ fl ad f, vs = [.ref a, .ref fl] ∧ MM H2 fl n n ad (fun i j => .int (f i j)) ∧ TRt K H2 n a ra g r ∧ Dealt n g r f) (P := fun v _ => ∃ f, v = .int (worth n g f) ∧ Dealt n g r f) (ac_cons (Pr := fun _ _ => True) (al_va (va_var (v := .ref a) rfl)) fun v H2 S2 e => ac_cons (Pr := fun _ _ => True) (al_deal (hT1.mono S2) (va_var rfl) (va_var rfl)) fun v2 H3 S3 ⟨fl, ad, f, ev, hM, _, _, hD⟩ => fun Q7 q7 => q7 [] H3 (Same.refl _) ⟨fl, ad, f, by rw [e, ev], hM, (hT1.mono S2).mono S3, hD⟩) fun vs H2 S2 ⟨fl, ad, f, evs, hM, hT3, hD⟩ Q E q2 => ⟨n, a, fl, g, f, evs, hT3.tab, hM.ll, hn, fun i j hi hj => ⟨hD.nn i j hi hj, Int.lt_of_le_of_lt (hD.le hi hj) (hT.rt.lt i hi)⟩, hD.pos, fun v H4 S4 e => q2 v H4 S4 ⟨f, e, hD⟩⟩) fun v H2 S2 p => q v H2 (S1.trans S2) p
end
end K45
set_option linter.all false
namespace K45
/-! ### walks -/
inductive Wk (n : Nat) (w : Gr) : Nat → Nat → Int → Nat → Prop
  | nil {x : Nat} : x < n → Wk n w x x 0 0
  | cons {x u y : Nat} {g s : Int} {h : Nat} : x < n → w x u = some g → Wk n w u y s h → Wk n w x y (g + s) (h + 1)
def off (d : Nat) (w : Gr) : Gr := fun u v => if u = d then none else w u v
theorem off_some {d : Nat} {w : Gr} {u v : Nat} {g : Int} (h : off d w u v = some g) : u ≠ d ∧ w u v = some g := by
  unfold off at h
  by_cases c : u = d
  · rw [if_pos c] at h; cases h
  · rw [if_neg c] at h; exact ⟨c, h⟩
theorem off_ne {d : Nat} {w : Gr} {u v : Nat} (h : u ≠ d) : off d w u v = w u v := if_neg h
section
variable {n : Nat} {w w' : Gr} {x y u : Nat} {s s' : Int} {h h' : Nat}
theorem Wk.lt (a : Wk n w x y s h) : x < n ∧ y < n := by
  induction a with
  | nil hx => exact ⟨hx, hx⟩
  | cons hx _ _ ih => exact ⟨hx, ih.2⟩
theorem Wk.trans (a : Wk n w x u s h) (b : Wk n w u y s' h') : Wk n w x y (s + s') (h + h') := by
  induction a with
  | nil hx => rw [Int.zero_add, Nat.zero_add]; exact b
  | cons hx e _ ih => rw [Int.add_assoc, Nat.add_right_comm]; exact .cons hx e (ih b)
theorem Wk.pot {p : Nat → Int} (f : Feas n w p) (a : Wk n w x y s h) : p x + s ≤ p y := by
  induction a with
  | nil hx => omega
  | cons hx e b ih => have := f _ _ hx b.lt.1 _ e; omega
theorem Wk.mono (k : ∀ x y g, x < n → y < n → w x y = some g → w' x y = some g) (a : Wk n w x y s h) : Wk n w' x y s h := by
  induction a with
  | nil hx => exact .nil hx
  | cons hx e b ih => exact .cons hx (k _ _ _ hx b.lt.1 e) ih
/-- a greater graph -/
theorem Wk.ge (k : ∀ x y g, x < n → y < n → w x y = some g → ∃ g', w' x y = some g' ∧ g ≤ g') (a : Wk n w x y s h) : ∃ s', s ≤ s' ∧ Wk n w' x y s' h := by
  induction a with
  | nil hx => exact ⟨0, Int.le_refl 0, .nil hx⟩
  | cons hx e b ih =>
    obtain ⟨s', h1, h2⟩ := ih
    obtain ⟨g', h3, h4⟩ := k _ _ _ hx b.lt.1 e
    exact ⟨g' + s', by omega, .cons hx h3 h2⟩
theorem seq_walk : ∀ (k : Nat) (f : Nat → Nat) (e : Nat → Int), (∀ j, j ≤ k → f j < n) → (∀ j, j < k → w (f j) (f (j + 1)) = some (e j)) → Wk n w (f 0) (f k) (sumN k e) k
  | 0, f, e, hf, _ => .nil (hf 0 (Nat.le_refl 0))
  | k + 1, f, e, hf, he => by
    rw [sumN_shiftl]
    exact .cons (hf 0 (Nat.zero_le _)) (he 0 (Nat.succ_pos k)) (seq_walk k (fun j => f (j + 1)) (fun j => e (j + 1)) (fun j hj => hf (j + 1) (by omega)) fun j hj => he (j + 1) (by omega))
end
/-! ### rings and walks -/
theorem sum_shift {p : Nat} {W : Nat → Int} (hp : 0 < p) : ∀ i, sumN p (fun j => W ((j + i) % p)) = sumN p W
  | 0 => sumN_congr fun j hj => by rw [Nat.add_zero, Nat.mod_eq_of_lt hj]
  | i + 1 => by
    rw [← sum_shift (W := W) hp i, ← sumN_cyc (n := p) (f := fun j => W ((j + i) % p))]
    refine sumN_congr fun j _ => ?_
    have e : (j + (i + 1)) % p = ((j + 1) % p + i) % p := by rw [Nat.mod_add_mod]; congr 1; omega
    rw [e]
/-- the ring from one of its doors on -/
theorem ring_rest {n : Nat} {w : Gr} {p : Nat} {c : Nat → Nat} (r : IsRing n w p c) {i : Nat} (hi : i < p) :
    ∃ g s, w (c i) (c ((i + 1) % p)) = some g ∧ Wk n (off (c i) w) (c ((i + 1) % p)) (c i) s (p - 1) ∧ g + s = rsum w p c := by
  have hp : 0 < p := by omega
  have hm : ∀ j, j % p < p := fun j => Nat.mod_lt _ hp
  obtain ⟨g, hg⟩ := r.arc i hi
  have ar : ∀ j, w (c (j % p)) (c ((j + 1) % p)) = some ((w (c (j % p)) (c ((j + 1) % p))).getD 0) := fun j => by
    obtain ⟨g, h⟩ := r.arc (j % p) (hm j)
    have e : (j % p + 1) % p = (j + 1) % p := Nat.mod_add_mod ..
    rw [e] at h
    rw [h]; rfl
  have q : p - 1 + 1 = p := by omega
  have W := seq_walk (n := n) (w := off (c i) w) (p - 1) (fun j => c ((j + 1 + i) % p)) (fun j => (w (c ((j + 1 + i) % p)) (c ((j + 1 + i + 1) % p))).getD 0) (fun j _ => r.lt _ (hm _)) fun j hj => by
    have ne : c ((j + 1 + i) % p) ≠ c i := fun z => by
      have e := r.inj _ _ (hm _) hi z
      have h1 : (j + 1 + i) % p = i % p := by rw [e, Nat.mod_eq_of_lt hi]
      by_cases c1 : j + 1 + i < p
      · rw [Nat.mod_eq_of_lt c1] at e; omega
      · have h2 : (j + 1 + i) % p = j + 1 + i - p := by
          rw [Nat.mod_eq_sub_mod (by omega), Nat.mod_eq_of_lt (by omega)]
        omega
    show off (c i) w (c ((j + 1 + i) % p)) (c ((j + 1 + 1 + i) % p)) = _
    rw [off_ne ne]
    have e2 : j + 1 + 1 + i = j + 1 + i + 1 := by omega
    rw [e2]
    exact ar (j + 1 + i)
  have e0 : (0 + 1 + i) % p = (i + 1) % p := by congr 1; omega
  have e1 : c ((p - 1 + 1 + i) % p) = c i := by
    rw [q, Nat.add_mod_left, Nat.mod_eq_of_lt hi]
  refine ⟨g, sumN (p - 1) (fun j => (w (c ((j + 1 + i) % p)) (c ((j + 1 + i + 1) % p))).getD 0), hg, ?_, ?_⟩
  · rw [e0, e1] at W
    exact W
  · have e3 : rsum w p c = sumN p (fun j => (w (c ((j + i) % p)) (c ((j + i + 1) % p))).getD 0) := by
      unfold rsum
      rw [← sum_shift (W := fun i => (w (c i) (c ((i + 1) % p))).getD 0) hp i]
      refine sumN_congr fun j _ => ?_
      have : ((j + i) % p + 1) % p = (j + i + 1) % p := Nat.mod_add_mod ..
      rw [this]
    rw [e3]
    have e4 : sumN p (fun j => (w (c ((j + i) % p)) (c ((j + i + 1) % p))).getD 0) = sumN (p - 1 + 1) (fun j => (w (c ((j + i) % p)) (c ((j + i + 1) % p))).getD 0) := by rw [q]
    rw [e4, sumN_shiftl, Nat.zero_add, Nat.mod_eq_of_lt hi, hg]
    rfl
/-- potentials, or a ring that gains -/
theorem feas_or_ring {n : Nat} {w : Gr} (hn : 1 ≤ n) (hw : ∀ x, w x x = none) : (∃ p, Feas n w p) ∨ ∃ p c, IsRing n w p c ∧ 0 < rsum w p c := by
  cases e : (bround w n n).L with
  | none =>
    obtain ⟨k, rfl⟩ : ∃ k, n = k + 1 := ⟨n - 1, by omega⟩
    exact .inl ⟨_, bround_feas hw e⟩
  | some y =>
    obtain ⟨p, h⟩ := behind_of hn hw e
    exact .inr ⟨p, _, bring_ok hn hw h⟩
theorem kept_of {n : Nat} {w : Gr} (hn : 1 ≤ n) (hw : ∀ x, w x x = none) (h : ∀ p c, IsRing n w p c → rsum w p c ≤ 0) : ∃ p, Feas n w p := by
  rcases feas_or_ring hn hw with z | ⟨p, c, r, hr⟩
  · exact z
  · have := h p c r; omega
/-! ### the best sums by walks -/
section
variable {n : Nat} {w : Gr} {goal : Nat} {S : Nat → Option Int} {F : Nat → Option Nat} {τ : Nat → Nat}
theorem Chain.lt_n {y k : Nat} {s : Int} (c : Chain n w goal F y k s) : k < n := by
  refine Classical.byContradiction fun z => ?_
  obtain ⟨i, j, h1, h2, h3⟩ := php n (fun j => iter (bk F) j y) fun j hj => c.lt j (by omega)
  have := c.inj i j (by omega) (by omega) h3
  omega
theorem Chain.walk {y k : Nat} {s : Int} (c : Chain n w goal F y k s) : Wk n (off goal w) y goal s k := by
  have W := seq_walk (n := n) (w := off goal w) k (fun j => iter (bk F) j y) (fun j => (w (iter (bk F) j y) (iter (bk F) (j + 1) y)).getD 0) (fun j hj => c.lt j hj) fun j hj => by
    rw [off_ne (c.ne j hj)]
    obtain ⟨g, hg⟩ := c.arc j hj
    rw [hg]; rfl
  rw [c.sum] at W
  have W' : Wk n (off goal w) y (iter (bk F) k y) s k := W
  rw [c.hit] at W'
  exact W'
theorem best_chain (b : Best n w goal S F τ) (hg : goal < n) {y : Nat} (hy : y < n) {c : Int} (hc : S y = some c) : ∃ k, k < n ∧ Chain n w goal F y k c := by
  obtain ⟨k, h, _⟩ := chain_of b hg (τ y) y (Nat.le_refl _) hy c hc
  exact ⟨k, h.lt_n, h⟩
theorem best_up (b : Best n w goal S F τ) {y : Nat} {s : Int} {h : Nat} (a : Wk n (off goal w) y goal s h) : ∃ c, S y = some c ∧ s ≤ c := by
  have key : ∀ {w' : Gr} {z y : Nat} {s : Int} {h : Nat}, Wk n w' y z s h → w' = off goal w → z = goal → ∃ c, S y = some c ∧ s ≤ c := by
    intro w' z y s h a
    induction a with
    | nil hx => intro _ e; subst e; exact ⟨0, b.at0, Int.le_refl 0⟩
    | cons hx e a ih =>
      intro ew ez
      obtain ⟨c, h1, h2⟩ := ih ew ez
      rw [ew] at e
      obtain ⟨ne, e⟩ := off_some e
      obtain ⟨d, h3, h4⟩ := b.fix _ _ _ c hx a.lt.1 ne e h1
      exact ⟨d, h3, by omega⟩
  exact key a rfl rfl
/-- any walk, where all are kept -/
theorem best_upF (b : Best n w goal S F τ) {p : Nat → Int} (f : Feas n w p) {y : Nat} {s : Int} {h : Nat} (a : Wk n w y goal s h) : ∃ c, S y = some c ∧ s ≤ c := by
  have key : ∀ {z y : Nat} {s : Int} {h : Nat}, Wk n w y z s h → z = goal → ∃ c, S y = some c ∧ s ≤ c := by
    intro z y s h a
    induction a with
    | nil hx => intro e; subst e; exact ⟨0, b.at0, Int.le_refl 0⟩
    | @cons x u z g s h hx e a ih =>
      intro ez
      by_cases c : x = goal
      · have := (Wk.cons hx e a).pot f
        rw [c, ez] at this
        exact ⟨0, by rw [c]; exact b.at0, by omega⟩
      · obtain ⟨c', h1, h2⟩ := ih ez
        obtain ⟨d, h3, h4⟩ := b.fix _ _ _ c' hx a.lt.1 c e h1
        exact ⟨d, h3, by omega⟩
  exact key a rfl
end
end K45
set_option linter.all false
namespace K45
/-! ### the law's own walks: 64 times what is lost, and the steps -/
abbrev Ar := Nat → Nat → Option Int
def fw0 (w : Gr) : Ar := fun x y => if y = x then some 0 else (w x y).map fun v => 1 - 64 * v
def mn (m : Nat) (a : Ar) : Ar := fun x y => match a x m, a m y with
  | some c, some d => (match a x y with
    | none => some (c + d)
    | some b => if c + d < b then some (c + d) else some b)
  | _, _ => a x y
def fw (w : Gr) : Nat → Ar
  | 0 => fw0 w
  | m + 1 => mn m (fw w m)
theorem mn_none {m : Nat} {a : Ar} {x y : Nat} (h : a x m = none ∨ a m y = none) : mn m a x y = a x y := by
  unfold mn
  cases h1 : a x m with
  | none => rfl
  | some c =>
    cases h2 : a m y with
    | none => rfl
    | some d => rcases h with h | h
                · rw [h1] at h; cases h
                · rw [h2] at h; cases h
theorem mn_new {m : Nat} {a : Ar} {x y : Nat} {c d : Int} (h1 : a x m = some c) (h2 : a m y = some d) (h : ∀ b, a x y = some b → c + d < b) : mn m a x y = some (c + d) := by
  unfold mn
  rw [h1, h2]
  cases h3 : a x y with
  | none => rfl
  | some b => exact if_pos (h b h3)
theorem mn_old {m : Nat} {a : Ar} {x y : Nat} {c d b : Int} (h1 : a x m = some c) (h2 : a m y = some d) (h3 : a x y = some b) (h : ¬ c + d < b) : mn m a x y = a x y := by
  unfold mn
  rw [h1, h2, h3]
  exact if_neg h
/-- the three ways -/
theorem mn_cases (m : Nat) (a : Ar) (x y : Nat) : (mn m a x y = a x y ∧ ∀ c d, a x m = some c → a m y = some d → ∃ b, a x y = some b ∧ b ≤ c + d) ∨ ∃ c d, a x m = some c ∧ a m y = some d ∧ mn m a x y = some (c + d) ∧ ∀ b, a x y = some b → c + d < b := by
  cases h1 : a x m with
  | none => exact .inl ⟨mn_none (.inl h1), fun c d h => (nomatch h)⟩
  | some c =>
    cases h2 : a m y with
    | none => exact .inl ⟨mn_none (.inr h2), fun c d _ h => (nomatch h)⟩
    | some d =>
      cases h3 : a x y with
      | none => exact .inr ⟨c, d, rfl, rfl, mn_new h1 h2 (fun b h => by rw [h3] at h; cases h), fun b h => (nomatch h)⟩
      | some b =>
        by_cases hl : c + d < b
        · exact .inr ⟨c, d, rfl, rfl, mn_new h1 h2 (fun b' h => by rw [h3] at h; cases h; exact hl), fun b' h => by cases h; exact hl⟩
        · refine .inl ⟨(mn_old h1 h2 h3 hl).trans h3, fun c' d' e1 e2 => ?_⟩
          cases e1
          cases e2
          exact ⟨b, rfl, by omega⟩
structure FWI (n : Nat) (w : Gr) (m : Nat) (a : Ar) : Prop where
  dg : ∀ x, x < n → a x x = some 0
  edge : ∀ x y v, x < n → y < n → w x y = some v → ∃ c, a x y = some c ∧ c ≤ 1 - 64 * v
  walk : ∀ x y c, x < n → y < n → a x y = some c → ∃ s h, Wk n w x y s h ∧ c = (h : Int) - 64 * s
  clos : ∀ k, k < m → k < n → ∀ x y c d, x < n → y < n → a x k = some c → a k y = some d → ∃ b, a x y = some b ∧ b ≤ c + d
section
variable {n : Nat} {w : Gr} {p : Nat → Int}
theorem fw0_ok (hw : ∀ x, w x x = none) : FWI n w 0 (fw0 w) := by
  refine ⟨fun x _ => if_pos rfl, fun x y v hx hy e => ?_, fun x y c hx hy e => ?_, fun k hk => absurd hk (Nat.not_lt_zero k)⟩
  · have ne : y ≠ x := fun z => by subst z; rw [hw] at e; cases e
    exact ⟨1 - 64 * v, by unfold fw0; rw [if_neg ne, e]; rfl, Int.le_refl _⟩
  · unfold fw0 at e
    by_cases c1 : y = x
    · subst c1
      rw [if_pos rfl] at e
      cases e
      exact ⟨0, 0, .nil hx, by omega⟩
    · rw [if_neg c1] at e
      cases h : w x y with
      | none => rw [h] at e; cases e
      | some v =>
        rw [h] at e
        cases e
        exact ⟨v + 0, 0 + 1, .cons hx h (.nil hy), by show 1 - 64 * v = ((0 + 1 : Nat) : Int) - 64 * (v + 0); omega⟩
theorem fw_lo (f : Feas n w p) {x : Nat} {s : Int} {h : Nat} (a : Wk n w x x s h) : 0 ≤ (h : Int) - 64 * s := by
  have := a.pot f
  omega
theorem mn_ok (f : Feas n w p) {m : Nat} (hm : m < n) {a : Ar} (h : FWI n w m a) : FWI n w (m + 1) (mn m a) := by
  have e1 : ∀ x, x < n → mn m a x m = a x m := fun x hx => by
    rcases mn_cases m a x m with ⟨e, _⟩ | ⟨c, d, h1, h2, h3, h4⟩
    · exact e
    · rw [h.dg m hm] at h2; cases h2
      have := h4 c h1; omega
  have e2 : ∀ y, y < n → mn m a m y = a m y := fun y hy => by
    rcases mn_cases m a m y with ⟨e, _⟩ | ⟨c, d, h1, h2, h3, h4⟩
    · exact e
    · rw [h.dg m hm] at h1; cases h1
      have := h4 d h2; omega
  have le : ∀ x y b, a x y = some b → ∃ b', mn m a x y = some b' ∧ b' ≤ b := fun x y b hb => by
    rcases mn_cases m a x y with ⟨e, _⟩ | ⟨c, d, h1, h2, h3, h4⟩
    · exact ⟨b, by rw [e]; exact hb, Int.le_refl _⟩
    · exact ⟨c + d, h3, by have := h4 b hb; omega⟩
  have via : ∀ x y c d, a x m = some c → a m y = some d → ∃ b, mn m a x y = some b ∧ b ≤ c + d := fun x y c d h1 h2 => by
    rcases mn_cases m a x y with ⟨e, k⟩ | ⟨c', d', h1', h2', h3, h4⟩
    · obtain ⟨b, hb, hl⟩ := k c d h1 h2
      exact ⟨b, by rw [e]; exact hb, hl⟩
    · rw [h1] at h1'; rw [h2] at h2'; cases h1'; cases h2'
      exact ⟨c + d, h3, Int.le_refl _⟩
  refine ⟨fun x hx => ?_, fun x y v hx hy e => ?_, fun x y c hx hy e => ?_, fun k hk hkn x y c d hx hy hc hd => ?_⟩
  · rcases mn_cases m a x x with ⟨e, _⟩ | ⟨c, d, h1, h2, h3, h4⟩
    · rw [e]; exact h.dg x hx
    · obtain ⟨s1, k1, w1, q1⟩ := h.walk x m c hx hm h1
      obtain ⟨s2, k2, w2, q2⟩ := h.walk m x d hm hx h2
      have := fw_lo f (w1.trans w2)
      have := h4 0 (h.dg x hx)
      omega
  · obtain ⟨c, h1, h2⟩ := h.edge x y v hx hy e
    obtain ⟨b, h3, h4⟩ := le x y c h1
    exact ⟨b, h3, by omega⟩
  · rcases mn_cases m a x y with ⟨e', _⟩ | ⟨c', d, h1, h2, h3, h4⟩
    · rw [e'] at e; exact h.walk x y c hx hy e
    · rw [h3] at e
      cases e
      obtain ⟨s1, k1, w1, q1⟩ := h.walk x m c' hx hm h1
      obtain ⟨s2, k2, w2, q2⟩ := h.walk m y d hm hy h2
      exact ⟨s1 + s2, k1 + k2, w1.trans w2, by omega⟩
  · by_cases ek : k = m
    · subst ek
      rw [e1 x hx] at hc
      rw [e2 y hy] at hd
      exact via x y c d hc hd
    · have hkm : k < m := by omega
      rcases mn_cases m a x k with ⟨ea, _⟩ | ⟨c1, c2, a1, a2, a3, _⟩
      · rw [ea] at hc
        rcases mn_cases m a k y with ⟨eb, _⟩ | ⟨d1, d2, b1, b2, b3, _⟩
        · rw [eb] at hd
          obtain ⟨b, h1, h2⟩ := h.clos k hkm hkn x y c d hx hy hc hd
          obtain ⟨b', h3, h4⟩ := le x y b h1
          exact ⟨b', h3, by omega⟩
        · rw [b3] at hd
          cases hd
          obtain ⟨b, h1, h2⟩ := h.clos k hkm hkn x m c d1 hx hm hc b1
          obtain ⟨b', h3, h4⟩ := via x y b d2 h1 b2
          exact ⟨b', h3, by omega⟩
      · rw [a3] at hc
        cases hc
        rcases mn_cases m a k y with ⟨eb, _⟩ | ⟨d1, d2, b1, b2, b3, _⟩
        · rw [eb] at hd
          obtain ⟨b, h1, h2⟩ := h.clos k hkm hkn m y c2 d hm hy a2 hd
          obtain ⟨b', h3, h4⟩ := via x y c1 b a1 h1
          exact ⟨b', h3, by omega⟩
        · rw [b3] at hd
          cases hd
          obtain ⟨s1, k1, w1, q1⟩ := h.walk m k c2 hm hkn a2
          obtain ⟨s2, k2, w2, q2⟩ := h.walk k m d1 hkn hm b1
          have := fw_lo f (w1.trans w2)
          obtain ⟨b', h3, h4⟩ := via x y c1 d2 a1 b2
          exact ⟨b', h3, by omega⟩
theorem fw_ok (hw : ∀ x, w x x = none) (f : Feas n w p) : ∀ m, m ≤ n → FWI n w m (fw w m)
  | 0, _ => fw0_ok hw
  | m + 1, h => mn_ok f h (fw_ok hw f m (by omega))
/-- in one phase the column and the row of the middle stand -/
theorem mn_mid (hw : ∀ x, w x x = none) (f : Feas n w p) {m : Nat} (hm : m < n) : (∀ x, x < n → mn m (fw w m) x m = fw w m x m) ∧ ∀ y, y < n → mn m (fw w m) m y = fw w m m y := by
  have h := fw_ok hw f m (by omega)
  refine ⟨fun x hx => ?_, fun y hy => ?_⟩
  · rcases mn_cases m (fw w m) x m with ⟨e, _⟩ | ⟨c, d, h1, h2, h3, h4⟩
    · exact e
    · rw [h.dg m hm] at h2; cases h2
      have := h4 c h1; omega
  · rcases mn_cases m (fw w m) m y with ⟨e, _⟩ | ⟨c, d, h1, h2, h3, h4⟩
    · exact e
    · rw [h.dg m hm] at h1; cases h1
      have := h4 d h2; omega
theorem fw_le (hw : ∀ x, w x x = none) (f : Feas n w p) {x y : Nat} {s : Int} {h : Nat} (a : Wk n w x y s h) : ∃ c, fw w n x y = some c ∧ c ≤ (h : Int) - 64 * s := by
  have I := fw_ok hw f n (Nat.le_refl n)
  induction a with
  | @nil x hx => exact ⟨0, I.dg x hx, by omega⟩
  | @cons x u y g s h hx e a ih =>
    obtain ⟨c, h1, h2⟩ := ih
    obtain ⟨d, h3, h4⟩ := I.edge x u g hx a.lt.1 e
    obtain ⟨b, h5, h6⟩ := I.clos u a.lt.1 a.lt.1 x y d c hx a.lt.2 h3 h1
    exact ⟨b, h5, by omega⟩
/-- what the law reads: the best sum and the fewest steps to it -/
theorem fw_best (hw : ∀ x, w x x = none) (f : Feas n w p) (hn : n ≤ 63) {goal y : Nat} (hg : goal < n) (hy : y < n) :
    (fw w n y goal = none ∧ bestS n w goal y = none) ∨ ∃ (s : Int) (h : Nat), fw w n y goal = some ((h : Int) - 64 * s) ∧ bestS n w goal y = some s ∧ h < 64 ∧ Wk n w y goal s h ∧ ∀ h', Wk n w y goal s h' → h ≤ h' := by
  obtain ⟨F, τ, b⟩ := best_has hw ⟨p, fun i j g hi hj _ e => f i j hi hj g e⟩ hg
  have I := fw_ok hw f n (Nat.le_refl n)
  cases e : fw w n y goal with
  | none =>
    refine .inl ⟨rfl, ?_⟩
    cases e2 : bestS n w goal y with
    | none => rfl
    | some c =>
      obtain ⟨k, _, ch⟩ := best_chain b hg hy e2
      obtain ⟨c', h1, _⟩ := fw_le hw f (ch.walk.mono (w' := w) fun x y g _ _ e => (off_some e).2)
      rw [e] at h1; cases h1
  | some c =>
    obtain ⟨s, h, W, rfl⟩ := I.walk y goal c hy hg e
    obtain ⟨sb, h1, h2⟩ := best_upF b f W
    obtain ⟨k, hk, ch⟩ := best_chain b hg hy h1
    have Wb := ch.walk.mono (w' := w) fun x y g _ _ e => (off_some e).2
    obtain ⟨c', h3, h4⟩ := fw_le hw f Wb
    rw [e] at h3
    cases h3
    have es : s = sb := by omega
    subst es
    refine .inr ⟨s, h, rfl, h1, by omega, W, fun h' W' => ?_⟩
    obtain ⟨c', h5, h6⟩ := fw_le hw f W'
    rw [e] at h5
    cases h5
    omega
end
end K45
set_option linter.all false
namespace K45
/-! ### needs by rings -/
section
variable {n : Nat} {g : Gr} {t : Nat → Int} {z : Nat}
theorem need_nn : 0 ≤ needF n g t z := (nfold_ok g z _ n).1
theorem need_ge {v : Nat} {e s : Int} (hv : v < n) (ne : v ≠ z) (he : g z v = some e) (hs : bestS n (gn g t) z v = some s) : e + s ≤ needF n g t z := (nfold_ok g z _ n).2.1 v e s hv ne he hs
theorem need_le {B : Int} (h0 : 0 ≤ B) (h : ∀ v e s, v < n → v ≠ z → g z v = some e → bestS n (gn g t) z v = some s → e + s ≤ B) : needF n g t z ≤ B := by
  rcases (nfold_ok g z (bestS n (gn g t) z) n).2.2 with e | ⟨v, e, s, h1, h2, h3, h4, h5⟩
  · show nfold g z (bestS n (gn g t) z) n ≤ B
    rw [e]; exact h0
  · show nfold g z (bestS n (gn g t) z) n ≤ B
    rw [← h5]; exact h v e s h1 h2 h3 h4
theorem bestO (hk : KeptO n g t z) (hz : z < n) : ∃ F τ, Best n (gn g t) z (bestS n (gn g t) z) F τ := best_has (gn_self g t) (cut_pot hk) hz
theorem need_ring_ge (hk : KeptO n g t z) (hz : z < n) {p : Nat} {c : Nat → Nat} (r : IsRing n (gn g t) p c) {i : Nat} (hi : i < p) (hc : c i = z) : t z + rsum (gn g t) p c ≤ needF n g t z := by
  obtain ⟨F, τ, b⟩ := bestO hk hz
  obtain ⟨e, s, h1, h2, h3⟩ := ring_rest r hi
  rw [hc] at h1 h2
  obtain ⟨c', h4, h5⟩ := best_up b h2
  obtain ⟨ne, h6⟩ := gn_some h1
  have := need_ge (g := g) (t := t) (z := z) h2.lt.1 (Ne.symm ne) h6 h4
  omega
theorem need_ring_le (hk : KeptO n g t z) (hz : z < n) {σ : Int} (h0 : 0 ≤ t z + σ) (h : ∀ p c, IsRing n (gn g t) p c → (∃ i, i < p ∧ c i = z) → rsum (gn g t) p c ≤ σ) : needF n g t z ≤ t z + σ := by
  obtain ⟨F, τ, b⟩ := bestO hk hz
  refine need_le h0 fun v e s hv ne he hs => ?_
  obtain ⟨k, _, ch⟩ := best_chain b hz hv hs
  have hg : gn g t z v = some (e - t z) := by rw [gn_ne (Ne.symm ne), he]; rfl
  obtain ⟨r1, r2⟩ := cring_ok hz ch ne hg
  have := h _ _ r1 ⟨0, by omega, rfl⟩
  omega
theorem cut_ring {w : Gr} {p : Nat} {c : Nat → Nat} (r : IsRing n (cut w z) p c) : IsRing n w p c ∧ rsum (cut w z) p c = rsum w p c ∧ ∀ i, i < p → c i ≠ z := by
  have k : ∀ u v g, cut w z u v = some g → w u v = some g ∧ z ≠ u := fun u v g e => by
    unfold cut at e
    by_cases q : z = u ∨ z = v
    · rw [if_pos q] at e; cases e
    · rw [if_neg q] at e; exact ⟨e, fun y => q (.inl y)⟩
  refine ⟨⟨r.two, r.lt, r.inj, fun i hi => ?_⟩, sumN_congr fun i hi => ?_, fun i hi e => ?_⟩
  · obtain ⟨g, h⟩ := r.arc i hi
    exact ⟨g, (k _ _ _ h).1⟩
  · obtain ⟨g, h⟩ := r.arc i hi
    rw [h, (k _ _ _ h).1]
  · obtain ⟨g, h⟩ := r.arc i hi
    exact (k _ _ _ h).2 e.symm
theorem ring_cut {w : Gr} {p : Nat} {c : Nat → Nat} (r : IsRing n w p c) (h : ∀ i, i < p → c i ≠ z) : IsRing n (cut w z) p c ∧ rsum (cut w z) p c = rsum w p c := by
  have k : ∀ i, i < p → cut w z (c i) (c ((i + 1) % p)) = w (c i) (c ((i + 1) % p)) := fun i hi => by
    unfold cut
    rw [if_neg]
    rintro (q | q)
    · exact h i hi q.symm
    · exact h _ (Nat.mod_lt _ (by omega)) q.symm
  refine ⟨⟨r.two, r.lt, r.inj, fun i hi => ?_⟩, sumN_congr fun i hi => ?_⟩
  · rw [k i hi]; exact r.arc i hi
  · rw [k i hi]
theorem keptO_of (hn : 1 ≤ n) (h : ∀ p c, IsRing n (gn g t) p c → (∀ i, i < p → c i ≠ z) → rsum (gn g t) p c ≤ 0) : KeptO n g t z :=
  kept_of hn (cut_self (gn_self g t) z) fun p c r => by
    obtain ⟨h1, h2, h3⟩ := cut_ring r
    rw [h2]
    exact h p c h1 h3
theorem keptO_not {p : Nat} {c : Nat → Nat} (r : IsRing n (gn g t) p c) (h : ∀ i, i < p → c i ≠ z) (hs : 0 < rsum (gn g t) p c) : ¬ KeptO n g t z := fun ⟨q, f⟩ => by
  obtain ⟨h1, h2⟩ := ring_cut r h
  have := f.ring h1
  omega
theorem ring_le {w : Gr} {p : Nat} {c : Nat → Nat} (r : IsRing n w p c) : p ≤ n := by
  refine Classical.byContradiction fun q => ?_
  obtain ⟨i, j, h1, h2, h3⟩ := php n c fun i hi => r.lt i (by omega)
  have := r.inj i j (by omega) (by omega) h3
  omega
end
/-! ### one entry put -/
def put (g : Gr) (x y : Nat) (e : Option Int) : Gr := fun u v => if u = x ∧ v = y then e else g u v
theorem put_at {g : Gr} {x y : Nat} {e : Option Int} : put g x y e x y = e := if_pos ⟨rfl, rfl⟩
theorem put_ne {g : Gr} {x y u v : Nat} {e : Option Int} (h : ¬ (u = x ∧ v = y)) : put g x y e u v = g u v := if_neg h
theorem gn_put_ne {g : Gr} {x y u v : Nat} {e : Option Int} {t : Nat → Int} (h : ¬ (u = x ∧ v = y)) : gn (put g x y e) t u v = gn g t u v := by
  unfold gn; rw [put_ne h]
theorem gn_put_off {g : Gr} {x y u v : Nat} {e : Option Int} {t : Nat → Int} (h : u ≠ x) : gn (put g x y e) t u v = gn g t u v := gn_put_ne fun z => h z.1
theorem gn_put_at {g : Gr} {x y : Nat} {e : Int} {t : Nat → Int} (h : x ≠ y) : gn (put g x y (some e)) t x y = some (e - t x) := by rw [gn_ne h, put_at]; rfl
theorem Chain.congr {n : Nat} {w w' : Gr} {goal : Nat} {F : Nat → Option Nat} {y k : Nat} {s : Int} (h : Chain n w goal F y k s) (e : ∀ u v, u ≠ goal → w' u v = w u v) : Chain n w' goal F y k s :=
  ⟨h.lt, h.ne, h.nx, h.hit, h.inj, fun j hj => by rw [e _ _ (h.ne j hj)]; exact h.arc j hj, by rw [← h.sum]; exact sumN_congr fun j hj => by rw [e _ _ (h.ne j hj)]⟩
theorem Best.congr {n : Nat} {w w' : Gr} {goal : Nat} {S : Nat → Option Int} {F : Nat → Option Nat} {τ : Nat → Nat} (h : Best n w goal S F τ) (e : ∀ u v, u ≠ goal → w' u v = w u v) : Best n w' goal S F τ :=
  ⟨h.at0, fun x y g v hx hy ne hw hs => h.fix x y g v hx hy ne (by rw [← e x y ne]; exact hw) hs, fun x c hx ne hs => by
    obtain ⟨f, g, v, h1, h2, h3, h4⟩ := h.att x c hx ne hs
    exact ⟨f, g, v, h1, h2, by rw [e x f ne]; exact h3, h4⟩⟩
theorem bestS_congr {n : Nat} {w w' : Gr} {goal : Nat} {S : Nat → Option Int} {F : Nat → Option Nat} {τ : Nat → Nat} (h : Best n w goal S F τ) (e : ∀ u v, u ≠ goal → w' u v = w u v) {y : Nat} (hy : y < n) : bestS n w' goal y = bestS n w goal y :=
  (bestS_eq (h.congr e) hy).symm.trans (bestS_eq h hy)
section
variable {n : Nat} {g : Gr} {t : Nat → Int} {x y : Nat}
theorem kept_best (hk : Kept n g t) {z : Nat} (hz : z < n) : ∃ F τ, Best n (gn g t) z (bestS n (gn g t) z) F τ := bestO (kept_cut hk z) hz
theorem room_put (hk : Kept n g t) (hx : x < n) (hy : y < n) (e : Option Int) (v : Nat) (hv : v < n) : roomF n (put g x y e) t x v = roomF n g t x v := by
  obtain ⟨F, τ, b⟩ := kept_best hk hx
  unfold roomF
  rw [bestS_congr b (fun u v ne => gn_put_off ne) hv]
/-- a ring behind a put -/
theorem put_ring {e : Option Int} (hk : Kept n g t) {p : Nat} {c : Nat → Nat} (r : IsRing n (gn (put g x y e) t) p c) :
    rsum (gn (put g x y e) t) p c ≤ 0 ∨ ∃ e' s i, e = some e' ∧ i < p ∧ c i = x ∧ c ((i + 1) % p) = y ∧ Wk n (off x (gn g t)) y x s (p - 1) ∧ rsum (gn (put g x y e) t) p c = e' - t x + s := by
  by_cases h : ∃ i, i < p ∧ c i = x ∧ c ((i + 1) % p) = y
  · obtain ⟨i, hi, h1, h2⟩ := h
    obtain ⟨v, s, h3, h4, h5⟩ := ring_rest r hi
    rw [h1, h2] at h3 h4
    obtain ⟨_, h6⟩ := gn_some h3
    rw [put_at] at h6
    refine .inr ⟨v + t x, s, i, h6, hi, h1, h2, h4.mono fun u v g' _ _ ho => ?_, by omega⟩
    obtain ⟨o1, o2⟩ := off_some ho
    rw [off_ne o1, ← gn_put_off o1]
    exact o2
  · have k : ∀ i, i < p → gn (put g x y e) t (c i) (c ((i + 1) % p)) = gn g t (c i) (c ((i + 1) % p)) := fun i hi => gn_put_ne fun z => h ⟨i, hi, z.1, z.2⟩
    have r2 : IsRing n (gn g t) p c := ⟨r.two, r.lt, r.inj, fun i hi => by rw [← k i hi]; exact r.arc i hi⟩
    have e2 : rsum (gn (put g x y e) t) p c = rsum (gn g t) p c := sumN_congr fun i hi => by rw [k i hi]
    obtain ⟨q, f⟩ := hk
    exact .inl (by rw [e2]; exact f.ring r2)
/-- a put of no more than the room is kept -/
theorem kept_put {e : Option Int} (hn : 1 ≤ n) (hk : Kept n g t) (hx : x < n) (hy : y < n) (h : ∀ e' s, e = some e' → bestS n (gn g t) x y = some s → e' - t x + s ≤ 0) : Kept n (put g x y e) t :=
  kept_of hn (gn_self _ t) fun p c r => by
    rcases put_ring hk r with z | ⟨e', s, i, h1, h2, h3, h4, h5, h6⟩
    · exact z
    · obtain ⟨F, τ, b⟩ := kept_best hk hx
      obtain ⟨s', h7, h8⟩ := best_up b h5
      have := h e' s' h1 h7
      omega
/-- the ring that a put closes -/
theorem the_ring {e s : Int} (hk : Kept n g t) (hx : x < n) (hy : y < n) (ne : y ≠ x) (hs : bestS n (gn g t) x y = some s) :
    ∃ k F, Chain n (gn g t) x F y k s ∧ IsRing n (gn (put g x y (some e)) t) (k + 1) (cring x F y) ∧ rsum (gn (put g x y (some e)) t) (k + 1) (cring x F y) = e - t x + s := by
  obtain ⟨F, τ, b⟩ := kept_best hk hx
  obtain ⟨k, _, ch⟩ := best_chain b hx hy hs
  obtain ⟨r1, r2⟩ := cring_ok (w := gn (put g x y (some e)) t) hx (ch.congr fun u v ne => gn_put_off ne) ne (gn_put_at (Ne.symm ne))
  exact ⟨k, F, ch, r1, r2⟩
theorem room_some {r : Int} (ne : y ≠ x) (h : roomF n g t x y = some r) : ∃ s, bestS n (gn g t) x y = some s ∧ r = t x - s := by
  unfold roomF at h
  rw [if_neg ne] at h
  cases c : bestS n (gn g t) x y with
  | none => rw [c] at h; cases h
  | some s => rw [c] at h; cases h; exact ⟨s, rfl, rfl⟩
theorem room_none (ne : y ≠ x) (h : roomF n g t x y = none) : bestS n (gn g t) x y = none := by
  unfold roomF at h
  rw [if_neg ne] at h
  cases c : bestS n (gn g t) x y with
  | none => rfl
  | some s => rw [c] at h; cases h
/-- an entry is at most the room -/
theorem entry_le (hk : Kept n g t) (hx : x < n) (hy : y < n) (ne : y ≠ x) {e s : Int} (he : g x y = some e) (hs : bestS n (gn g t) x y = some s) : e - t x + s ≤ 0 := by
  obtain ⟨F, τ, b⟩ := kept_best hk hx
  obtain ⟨k, _, ch⟩ := best_chain b hx hy hs
  obtain ⟨p, f⟩ := hk
  have W : Wk n (gn g t) x x (e - t x + s) (k + 1) := .cons hx (by rw [gn_ne (Ne.symm ne), he]; rfl) (ch.walk.mono fun u v g _ _ h => (off_some h).2)
  have := W.pot f
  omega
end
end K45
set_option linter.all false
namespace K45
section
variable {n : Nat} {g : Gr} {t : Nat → Int} {x y : Nat} {s : Int}
/-! ### the full table -/
abbrev full (g : Gr) (t : Nat → Int) (x y : Nat) (s : Int) : Gr := put g x y (some (t x - s))
theorem full_kept (hn : 1 ≤ n) (hk : Kept n g t) (hx : x < n) (hy : y < n) (hs : bestS n (gn g t) x y = some s) : Kept n (full g t x y s) t :=
  kept_put hn hk hx hy fun e' s' h1 h2 => by
    rw [hs] at h2
    cases h1; cases h2
    omega
/-- the least wait where a tight ring goes through -/
theorem need_tight {G : Gr} (hk : Kept n G t) (h0 : ∀ i, i < n → 0 ≤ t i) {z : Nat} (hz : z < n) {p : Nat} {c : Nat → Nat} (r : IsRing n (gn G t) p c) (hr : rsum (gn G t) p c = 0) {i : Nat} (hi : i < p) (hc : c i = z) : needF n G t z = t z := by
  have h1 := need_ring_ge (kept_cut hk z) hz r hi hc
  have h2 := need_ring_le (kept_cut hk z) hz (σ := 0) (by have := h0 z hz; omega) fun p c r _ => by obtain ⟨q, f⟩ := hk; exact f.ring r
  omega
theorem need_kept {G : Gr} (hk : Kept n G t) (h0 : ∀ i, i < n → 0 ≤ t i) {z : Nat} (hz : z < n) : needF n G t z ≤ t z := by
  have h2 := need_ring_le (kept_cut hk z) hz (σ := 0) (by have := h0 z hz; omega) fun p c r _ => by obtain ⟨q, f⟩ := hk; exact f.ring r
  omega
theorem full_need (hn : 1 ≤ n) (hk : Kept n g t) (h0 : ∀ i, i < n → 0 ≤ t i) (hx : x < n) (hy : y < n) (ne : y ≠ x) (hs : bestS n (gn g t) x y = some s) {z : Nat} (hz : z = x ∨ z = y) : needF n (full g t x y s) t z = t z := by
  obtain ⟨k, F, ch, r1, r2⟩ := the_ring (e := t x - s) hk hx hy ne hs
  have hk2 := full_kept hn hk hx hy hs
  have k1 : 1 ≤ k := by
    cases k with
    | zero => exact absurd ch.hit ne
    | succ k => omega
  rcases hz with rfl | rfl
  · exact need_tight hk2 h0 hx r1 (by rw [r2]; omega) (i := 0) (by omega) rfl
  · exact need_tight hk2 h0 hy r1 (by rw [r2]; omega) (i := 1) (by omega) rfl
/-! ### one more than the room -/
abbrev over (g : Gr) (t : Nat → Int) (x y : Nat) (s : Int) : Gr := put g x y (some (t x - s + 1))
theorem over_not (hk : Kept n g t) (hx : x < n) (hy : y < n) (ne : y ≠ x) (hs : bestS n (gn g t) x y = some s) : ¬ Kept n (over g t x y s) t := fun ⟨p, f⟩ => by
  obtain ⟨k, F, ch, r1, r2⟩ := the_ring (e := t x - s + 1) hk hx hy ne hs
  have := f.ring r1
  have r2 : rsum (gn (over g t x y s) t) (k + 1) (cring x F y) = t x - s + 1 - t x + s := r2
  omega
/-- what gains there goes by the step put, and gains one -/
theorem over_ring (hk : Kept n g t) (hx : x < n) (hy : y < n) (hs : bestS n (gn g t) x y = some s) {p : Nat} {c : Nat → Nat} (r : IsRing n (gn (over g t x y s) t) p c) :
    rsum (gn (over g t x y s) t) p c ≤ 0 ∨ (rsum (gn (over g t x y s) t) p c = 1 ∧ ∃ i, i < p ∧ c i = x ∧ c ((i + 1) % p) = y ∧ Wk n (off x (gn g t)) y x s (p - 1)) := by
  rcases put_ring hk r with z | ⟨e', s', i, h1, h2, h3, h4, h5, h6⟩
  · exact .inl z
  · obtain ⟨F, τ, b⟩ := kept_best hk hx
    obtain ⟨s'', h7, h8⟩ := best_up b h5
    rw [hs] at h7
    cases h1
    cases h7
    have h6 : rsum (gn (over g t x y s) t) p c = t x - s + 1 - t x + s' := h6
    by_cases e : s' = s
    · subst e
      exact .inr ⟨by omega, i, h2, h3, h4, h5⟩
    · exact .inl (by omega)
theorem sum_cg {w : Gr} {n : Nat} {k : Int} {p : Nat} {c : Nat → Nat} (r : IsRing n w p c) : rsum (cg n k w) p c = p * (1 - (n : Int)) + n * k * rsum w p c := by
  unfold rsum
  have e : ∀ i, i < p → ((cg n k w) (c i) (c ((i + 1) % p))).getD 0 = (1 - (n : Int)) + n * k * (w (c i) (c ((i + 1) % p))).getD 0 := fun i hi => by
    obtain ⟨v, h⟩ := r.arc i hi
    unfold cg
    rw [h]
    show 1 - (n : Int) * (1 - k * v) = _ + n * k * v
    rw [Int.mul_sub, Int.mul_one, Int.mul_assoc]
    omega
  rw [sumN_congr e, sumN_add, sumN_const, sumN_mul]
theorem cg_ring {w : Gr} {n : Nat} {k : Int} {p : Nat} {c : Nat → Nat} (r : IsRing n (cg n k w) p c) : IsRing n w p c :=
  ⟨r.two, r.lt, r.inj, fun i hi => by
    obtain ⟨v, h⟩ := r.arc i hi
    unfold cg at h
    cases e : w (c i) (c ((i + 1) % p)) with
    | none => rw [e] at h; cases h
    | some z => exact ⟨z, rfl⟩⟩
theorem over_at (hn : 1 ≤ n) (hk : Kept n g t) (hx : x < n) (hy : y < n) (hs : bestS n (gn g t) x y = some s) {h : Nat} (hmin : ∀ h', Wk n (gn g t) y x s h' → h ≤ h') {k : Nat} (hkh : k ≤ h) : KeptAt n (over g t x y s) t k :=
  kept_of hn (cg_self (gn_self _ t)) fun p c r => by
    have r' := cg_ring r
    rw [sum_cg r']
    have hp := ring_le r'
    have two := r'.two
    rcases over_ring hk hx hy hs r' with z | ⟨z, i, h1, h2, h3, h4⟩
    · have a1 : (n : Int) * k * rsum (gn (over g t x y s) t) p c ≤ 0 := Int.mul_nonpos_of_nonneg_of_nonpos (Int.mul_nonneg (by omega) (by omega)) z
      have a2 : (p : Int) * (1 - (n : Int)) ≤ 0 := Int.mul_nonpos_of_nonneg_of_nonpos (by omega) (by omega)
      omega
    · rw [z, Int.mul_one]
      have hh := hmin (p - 1) (h4.mono fun u v g' _ _ ho => (off_some ho).2)
      have a1 : (n : Int) * k ≤ n * (p - 1) := Int.mul_le_mul_of_nonneg_left (by omega) (by omega)
      have a2 : (n : Int) * (p - 1) = n * p - n := by rw [Int.mul_sub, Int.mul_one]
      have a3 : (p : Int) * (1 - (n : Int)) = p - n * p := by rw [Int.mul_sub, Int.mul_one, Int.mul_comm (p : Int) n]
      omega
theorem Wk.cg {w : Gr} {k : Int} {p : Nat → Int} (f : Feas n (cg n k w) p) {u v : Nat} {s : Int} {h : Nat} (a : Wk n w u v s h) : p u + (h * (1 - (n : Int)) + n * k * s) ≤ p v := by
  induction a with
  | nil hx => show _ + (((0 : Nat) : Int) * _ + _) ≤ _; rw [Int.natCast_zero, Int.zero_mul, Int.mul_zero]; omega
  | @cons x u y g s h hx e a ih =>
    have h1 := f x u hx a.lt.1 (1 - n * (1 - k * g)) (by unfold K45.cg; rw [e]; rfl)
    have e1 : ((h + 1 : Nat) : Int) * (1 - (n : Int)) = h * (1 - (n : Int)) + (1 - n) := by rw [Int.natCast_add, Int.add_mul]; show _ + (1 : Int) * _ = _; rw [Int.one_mul]
    have e2 : (n : Int) * k * (g + s) = n * k * g + n * k * s := Int.mul_add ..
    have e3 : 1 - (n : Int) * (1 - k * g) = 1 - n + n * k * g := by rw [Int.mul_sub, Int.mul_one, Int.mul_assoc]; omega
    omega
theorem over_not_at (hk : Kept n g t) (hx : x < n) (hy : y < n) (ne : y ≠ x) (hs : bestS n (gn g t) x y = some s) {h : Nat} (W : Wk n (gn g t) y x s h) : ¬ KeptAt n (over g t x y s) t (((h : Nat) : Int) + 1) := fun ⟨p, f⟩ => by
  obtain ⟨s', h1, h2⟩ := W.ge (w' := gn (over g t x y s) t) fun u v g' hu hv e => by
    by_cases c : u = x ∧ v = y
    · obtain ⟨rfl, rfl⟩ := c
      obtain ⟨_, e2⟩ := gn_some e
      have := entry_le hk hx hy ne e2 hs
      exact ⟨_, gn_put_at (Ne.symm ne), by omega⟩
    · exact ⟨g', by rw [gn_put_ne c]; exact e, Int.le_refl _⟩
  have W2 : Wk n (gn (over g t x y s) t) x x (t x - s + 1 - t x + s') (h + 1) := .cons hx (gn_put_at (Ne.symm ne)) h2
  have q := W2.cg f
  have a0 : ((h + 1 : Nat) : Int) = (h : Int) + 1 := by omega
  rw [a0] at q
  have a1 : (n : Int) * ((h : Int) + 1) * 1 ≤ n * ((h : Int) + 1) * (t x - s + 1 - t x + s') := Int.mul_le_mul_of_nonneg_left (by omega) (Int.mul_nonneg (by omega) (by omega))
  have a2 : ((h : Int) + 1) * (1 - (n : Int)) = ((h : Int) + 1) - n * ((h : Int) + 1) := by rw [Int.mul_sub, Int.mul_one, Int.mul_comm (n : Int)]
  rw [Int.mul_one] at a1
  omega
theorem over_least (hn : 1 ≤ n) (hk : Kept n g t) (hx : x < n) (hy : y < n) (ne : y ≠ x) (hs : bestS n (gn g t) x y = some s) {h : Nat} (W : Wk n (gn g t) y x s h) (hmin : ∀ h', Wk n (gn g t) y x s h' → h ≤ h') (hhn : h + 1 ≤ n)
    {k : Nat} (k1 : 1 ≤ k) (k2 : k ≤ n) (k3 : ∀ j : Nat, 1 ≤ j → j < k → KeptAt n (over g t x y s) t (j : Int)) (k4 : k = n ∨ ¬ KeptAt n (over g t x y s) t (k : Int)) : k = h + 1 := by
  have no := over_not_at hk hx hy ne hs W
  have a0 : ((h + 1 : Nat) : Int) = (h : Int) + 1 := by omega
  rw [← a0] at no
  by_cases c : k < h + 1
  · rcases k4 with k4 | k4
    · omega
    · exact absurd (over_at hn hk hx hy hs hmin (k := k) (by omega)) k4
  · by_cases c2 : h + 1 < k
    · exact absurd (k3 (h + 1) (by omega) c2) no
    · omega
/-- with one more at either end it is kept -/
theorem over_more (hn : 1 ≤ n) (hk : Kept n g t) (hx : x < n) (hy : y < n) (hs : bestS n (gn g t) x y = some s) {d : Nat} (hd : d = x ∨ d = y) : Kept n (over g t x y s) (up t d (t d + 1)) :=
  kept_of hn (gn_self _ _) fun p c r => by
    have k : ∀ u v, gn (over g t x y s) (up t d (t d + 1)) u v = (gn (over g t x y s) t u v).map fun e => e - if u = d then 1 else 0 := fun u v => by
      unfold gn
      by_cases e : u = v
      · rw [if_pos e, if_pos e]; rfl
      · rw [if_neg e, if_neg e, Option.map_map]
        apply congrArg (fun f => Option.map f (over g t x y s u v))
        funext e
        show e - up t d (t d + 1) u = e - t u - _
        by_cases c : u = d
        · subst c; rw [up_same, if_pos rfl]; omega
        · rw [up_ne c, if_neg c]; omega
    have ar : ∀ i, i < p → ∃ v, gn (over g t x y s) t (c i) (c ((i + 1) % p)) = some v ∧ gn (over g t x y s) (up t d (t d + 1)) (c i) (c ((i + 1) % p)) = some (v - if c i = d then 1 else 0) := fun i hi => by
      obtain ⟨v, h⟩ := r.arc i hi
      rw [k] at h
      cases e : gn (over g t x y s) t (c i) (c ((i + 1) % p)) with
      | none => rw [e] at h; cases h
      | some z => exact ⟨z, rfl, by rw [k, e]; rfl⟩
    have r' : IsRing n (gn (over g t x y s) t) p c := ⟨r.two, r.lt, r.inj, fun i hi => (ar i hi).imp fun v h => h.1⟩
    have le : ∀ i, i < p → ((gn (over g t x y s) (up t d (t d + 1))) (c i) (c ((i + 1) % p))).getD 0 ≤ ((gn (over g t x y s) t) (c i) (c ((i + 1) % p))).getD 0 := fun i hi => by
      obtain ⟨v, h1, h2⟩ := ar i hi
      rw [h1, h2]
      show v - _ ≤ v
      split <;> omega
    rcases over_ring hk hx hy hs r' with z | ⟨z, i, h1, h2, h3, h4⟩
    · exact Int.le_trans (sumN_le le) z
    · have : ∃ j, j < p ∧ c j = d := by
        rcases hd with rfl | rfl
        · exact ⟨i, h1, h2⟩
        · exact ⟨_, Nat.mod_lt _ (by omega), h3⟩
      obtain ⟨j, hj, ej⟩ := this
      have lt : rsum (gn (over g t x y s) (up t d (t d + 1))) p c < rsum (gn (over g t x y s) t) p c := sumN_lt1 (b := j) le hj (by
        obtain ⟨v, h1, h2⟩ := ar j hj
        rw [h1, h2, if_pos ej]
        show v - 1 < v
        omega)
      omega
/-- the least waits there -/
theorem over_need (hk : Kept n g t) (h0 : ∀ i, i < n → 0 ≤ t i) (hx : x < n) (hy : y < n) (ne : y ≠ x) (hs : bestS n (gn g t) x y = some s) {z : Nat} (hz : z < n) (hO : KeptO n (over g t x y s) t z) : needF n (over g t x y s) t z = t z + 1 := by
  obtain ⟨k, F, ch, r1, r2⟩ := the_ring (e := t x - s + 1) hk hx hy ne hs
  have r2 : rsum (gn (over g t x y s) t) (k + 1) (cring x F y) = t x - s + 1 - t x + s := r2
  have thr : ∃ i, i < k + 1 ∧ cring x F y i = z := Classical.byContradiction fun q => keptO_not r1 (fun i hi e => q ⟨i, hi, e⟩) (by rw [r2]; omega) hO
  obtain ⟨i, hi, e⟩ := thr
  have h1 := need_ring_ge hO hz r1 hi e
  have h2 := need_ring_le hO hz (σ := 1) (by have := h0 z hz; omega) fun p c r _ => by
    rcases over_ring hk hx hy hs r with q | ⟨q, _⟩ <;> omega
  omega
theorem over_end (hn : 1 ≤ n) (hk : Kept n g t) (hx : x < n) (hy : y < n) (hs : bestS n (gn g t) x y = some s) {z : Nat} (hz : z = x ∨ z = y) : KeptO n (over g t x y s) t z :=
  keptO_of hn fun p c r h => by
    rcases over_ring hk hx hy hs r with q | ⟨q, i, h1, h2, h3, _⟩
    · exact q
    · rcases hz with rfl | rfl
      · exact absurd h2 (h i h1)
      · exact absurd h3 (h _ (Nat.mod_lt _ (by omega)))
/-- others: barred without z, or not, by the best sum that shuns z -/
theorem over_other (hn : 1 ≤ n) (hk : Kept n g t) (hx : x < n) (hy : y < n) (ne : y ≠ x) (hs : bestS n (gn g t) x y = some s) {z : Nat} (hzx : z ≠ x) (hzy : z ≠ y) : KeptO n (over g t x y s) t z ↔ bestS n (off z (gn g t)) x y ≠ some s := by
  obtain ⟨p0, f0⟩ := hk
  have hk : Kept n g t := ⟨p0, f0⟩
  have fz : Feas n (off z (gn g t)) p0 := fun u v hu hv g' e => f0 u v hu hv g' (off_some e).2
  have sz : ∀ x, off z (gn g t) x x = none := fun u => by unfold off; split; rfl; exact gn_self g t u
  obtain ⟨F, τ, b⟩ := best_has sz ⟨p0, fun i j g' hi hj _ e => fz i j hi hj g' e⟩ hx
  obtain ⟨F1, τ1, b1⟩ := kept_best hk hx
  constructor
  · intro hO e
    obtain ⟨k, _, ch⟩ := best_chain b hx hy e
    have ch2 : Chain n (gn (over g t x y s) t) x F y k s := ⟨ch.lt, ch.ne, ch.nx, ch.hit, ch.inj, fun j hj => by
        obtain ⟨v, hv⟩ := ch.arc j hj
        exact ⟨v, by rw [gn_put_off (ch.ne j hj)]; exact (off_some hv).2⟩, by
        rw [← ch.sum]
        refine sumN_congr fun j hj => ?_
        obtain ⟨v, hv⟩ := ch.arc j hj
        rw [gn_put_off (ch.ne j hj), hv, (off_some hv).2]⟩
    obtain ⟨r1, r2⟩ := cring_ok hx ch2 ne (gn_put_at (Ne.symm ne))
    refine keptO_not r1 (fun i hi q => ?_) (by rw [r2]; omega) hO
    cases i with
    | zero => exact hzx q.symm
    | succ i =>
      have q : iter (bk F) i y = z := q
      obtain ⟨v, hv⟩ := ch.arc i (by omega)
      exact (off_some hv).1 q
  · intro hne
    refine keptO_of hn fun p c r h => ?_
    rcases over_ring hk hx hy hs r with q | ⟨q, i, h1, h2, h3, _⟩
    · exact q
    · exfalso
      obtain ⟨rc, rs⟩ := ring_cut r h
      obtain ⟨v, s', a1, a2, a3⟩ := ring_rest rc h1
      rw [h2, h3] at a1 a2
      have W : Wk n (off x (off z (gn g t))) y x s' (p - 1) := a2.mono fun u v g' _ _ e => by
        obtain ⟨o1, o2⟩ := off_some e
        unfold cut at o2
        by_cases qq : z = u ∨ z = v
        · rw [if_pos qq] at o2; cases o2
        · rw [if_neg qq] at o2
          rw [off_ne o1, off_ne (fun e => qq (.inl e.symm)), ← gn_put_off o1]
          exact o2
      obtain ⟨sz', c1, c2⟩ := best_up b W
      have ev : v = t x - s + 1 - t x := by
        unfold cut at a1
        rw [if_neg (by rintro (e | e); exact hzx e; exact hzy e), gn_put_at (Ne.symm ne)] at a1
        exact (Option.some.inj a1).symm
      obtain ⟨k, _, chz⟩ := best_chain b hx hy c1
      obtain ⟨s2, c3, c4⟩ := best_up b1 (chz.walk.mono fun u v g' _ _ e => by
        obtain ⟨o1, o2⟩ := off_some e
        rw [off_ne o1]
        exact (off_some o2).2)
      rw [hs] at c3
      cases c3
      have : sz' = s := by omega
      rw [this] at c1
      exact hne c1
end
end K45
set_option linter.all false
namespace K45
section
variable {n : Nat} {g : Gr} {t : Nat → Int}
/-! ### lowering -/
theorem need_up {d : Nat} {v : Int} (hk : KeptO n g t d) (hd : d < n) : needF n g (up t d v) d = needF n g t d := by
  obtain ⟨F, τ, b⟩ := bestO hk hd
  refine nfold_congr fun y hy => bestS_congr b (fun u w ne => ?_) hy
  unfold gn
  rw [up_ne ne]
theorem gn_up_off {d : Nat} {v : Int} {u w : Nat} (h : u ≠ d) : gn g (up t d v) u w = gn g t u w := by
  unfold gn; rw [up_ne h]
theorem lower_kept (hn : 1 ≤ n) (hk : Kept n g t) {d : Nat} (hd : d < n) : Kept n g (up t d (needF n g t d)) :=
  kept_of hn (gn_self _ _) fun p c r => by
    by_cases h : ∃ i, i < p ∧ c i = d
    · obtain ⟨i, hi, e⟩ := h
      obtain ⟨v, s, h1, h2, h3⟩ := ring_rest r hi
      rw [e] at h1 h2
      obtain ⟨F, τ, b⟩ := kept_best hk hd
      obtain ⟨c', h4, h5⟩ := best_up b (h2.mono fun u w g' _ _ ho => by
        obtain ⟨o1, o2⟩ := off_some ho
        rw [off_ne o1, ← gn_up_off (t := t) o1]
        exact o2)
      obtain ⟨ne, h6⟩ := gn_some h1
      rw [up_same] at h6
      have := need_ge (t := t) h2.lt.1 (Ne.symm ne) h6 h4
      omega
    · have k : ∀ i, i < p → gn g (up t d (needF n g t d)) (c i) (c ((i + 1) % p)) = gn g t (c i) (c ((i + 1) % p)) := fun i hi => gn_up_off fun e => h ⟨i, hi, e⟩
      have r2 : IsRing n (gn g t) p c := ⟨r.two, r.lt, r.inj, fun i hi => by rw [← k i hi]; exact r.arc i hi⟩
      have e2 : rsum (gn g (up t d (needF n g t d))) p c = rsum (gn g t) p c := sumN_congr fun i hi => by rw [k i hi]
      obtain ⟨q, f⟩ := hk
      rw [e2]; exact f.ring r2
theorem need_mono {t' : Nat → Int} {z : Nat} (hz : z < n) (hk : KeptO n g t z) (hk' : KeptO n g t' z) (h : ∀ i, i < n → i ≠ z → t' i ≤ t i) : needF n g t z ≤ needF n g t' z := by
  obtain ⟨F, τ, b⟩ := bestO hk hz
  obtain ⟨F', τ', b'⟩ := bestO hk' hz
  refine need_le need_nn fun v e s hv ne he hs => ?_
  obtain ⟨k, _, ch⟩ := best_chain b hz hv hs
  obtain ⟨s', h1, h2⟩ := ch.walk.ge (w' := off z (gn g t')) fun u w g' hu hw e => by
    obtain ⟨o1, o2⟩ := off_some e
    obtain ⟨ne, o3⟩ := gn_some o2
    refine ⟨g' + t u - t' u, ?_, by have := h u hu o1; omega⟩
    rw [off_ne o1, gn_ne ne, o3]; rfl
  obtain ⟨c, h3, h4⟩ := best_up b' h2
  have := need_ge (t := t') hv ne he h3
  omega
/-- doors lowered one behind another -/
noncomputable def lows (n : Nat) (g : Gr) (t : Nat → Int) (d : Nat → Nat) : Nat → Nat → Int
  | 0 => t
  | k + 1 => up (lows n g t d k) (d k) (needF n g (lows n g t d k) (d k))
theorem lows_ok (hn : 1 ≤ n) (hk : Kept n g t) (h0 : ∀ i, i < n → 0 ≤ t i) {d : Nat → Nat} (hd : ∀ k, d k < n) : ∀ k, Kept n g (lows n g t d k) ∧ (∀ i, i < n → 0 ≤ lows n g t d k i) ∧ (∀ i, i < n → lows n g t d k i ≤ t i) ∧ ∀ j, j < k → needF n g (lows n g t d k) (d j) = lows n g t d k (d j)
  | 0 => ⟨hk, h0, fun i _ => Int.le_refl _, fun j hj => absurd hj (Nat.not_lt_zero j)⟩
  | k + 1 => by
    obtain ⟨a, b, b2, c⟩ := lows_ok hn hk h0 hd k
    show Kept n g (up (lows n g t d k) (d k) (needF n g (lows n g t d k) (d k))) ∧ (∀ i, i < n → 0 ≤ up (lows n g t d k) (d k) (needF n g (lows n g t d k) (d k)) i) ∧ (∀ i, i < n → up (lows n g t d k) (d k) (needF n g (lows n g t d k) (d k)) i ≤ t i) ∧ ∀ j, j < k + 1 → needF n g (up (lows n g t d k) (d k) (needF n g (lows n g t d k) (d k))) (d j) = up (lows n g t d k) (d k) (needF n g (lows n g t d k) (d k)) (d j)
    generalize lows n g t d k = u at a b b2 c ⊢
    have a' := lower_kept hn a (hd k)
    have b' : ∀ i, i < n → 0 ≤ up u (d k) (needF n g u (d k)) i := fun i hi => by
      by_cases e : i = d k
      · rw [e, up_same]; exact need_nn
      · rw [up_ne e]; exact b i hi
    have le : ∀ i, i < n → up u (d k) (needF n g u (d k)) i ≤ u i := fun i hi => by
      by_cases e : i = d k
      · rw [e, up_same]; exact need_kept a b (hd k)
      · rw [up_ne e]; exact Int.le_refl _
    refine ⟨a', b', fun i hi => Int.le_trans (le i hi) (b2 i hi), fun j hj => ?_⟩
    by_cases e : d j = d k
    · rw [e, up_same, need_up (kept_cut a _) (hd k)]
    · have hjk : j < k := by
        by_cases q : j = k
        · subst q; exact absurd rfl e
        · omega
      have h1 := need_mono (hd j) (kept_cut a _) (kept_cut a' _) fun i hi _ => le i hi
      have h2 := need_kept a' b' (hd j)
      rw [c j hjk] at h1
      rw [up_ne e] at h2 ⊢
      omega
/-! ### tight or loose -/
def Loose (n : Nat) (g : Gr) (t : Nat → Int) (z : Nat) : Prop := ∀ v e s, v < n → v ≠ z → g z v = some e → bestS n (gn g t) z v = some s → e - t z + s ≠ 0
theorem bare_iff (hk : Kept n g t) (h0 : ∀ i, i < n → 0 ≤ t i) {z : Nat} (hz : z < n) : t z = needF n g t z ↔ (t z = 0 ∨ ¬ Loose n g t z) := by
  have le := need_kept hk h0 hz
  constructor
  · intro e
    by_cases c : t z = 0
    · exact .inl c
    · right
      rcases (nfold_ok g z (bestS n (gn g t) z) n).2.2 with q | ⟨v, e', s, h1, h2, h3, h4, h5⟩
      · exact absurd (e.trans q) c
      · intro L
        have h6 : e' + s = t z := h5.trans e.symm
        exact L v e' s h1 h2 h3 h4 (by omega)
  · rintro (e | L)
    · have := need_nn (n := n) (g := g) (t := t) (z := z); omega
    · refine Classical.byContradiction fun ne => L fun v e s hv hne he hs q => ne ?_
      have := need_ge (t := t) hv hne he hs
      omega
theorem tight_loose (hk : Kept n g t) {z p : Nat} {c : Nat → Nat} (r : IsRing n (gn g t) p c) (hr : rsum (gn g t) p c = 0) (hz : z < n) (hc : c 0 = z) : ¬ Loose n g t z := fun L => by
  have two := r.two
  obtain ⟨v, s, h1, h2, h3⟩ := ring_rest r (i := 0) (by omega)
  rw [hc] at h1 h2
  obtain ⟨F, τ, b⟩ := kept_best hk hz
  obtain ⟨c', h4, h5⟩ := best_up b h2
  obtain ⟨ne, h6⟩ := gn_some h1
  have := entry_le hk hz h2.lt.1 (Ne.symm ne) h6 h4
  exact L _ _ _ h2.lt.1 (Ne.symm ne) h6 h4 (by omega)
theorem ring_entries {p : Nat} {c : Nat → Nat} (r : IsRing n (gn g t) p c) : (∀ i, i < p → ∃ e, g (c i) (c ((i + 1) % p)) = some e) ∧ rsum (gn g t) p c = sumN p (fun i => (g (c i) (c ((i + 1) % p))).getD 0) - sumN p (fun i => t (c i)) := by
  have k : ∀ i, i < p → ∃ e, g (c i) (c ((i + 1) % p)) = some e ∧ gn g t (c i) (c ((i + 1) % p)) = some (e - t (c i)) := fun i hi => by
    obtain ⟨v, h⟩ := r.arc i hi
    obtain ⟨_, h2⟩ := gn_some h
    exact ⟨_, h2, by rw [h]; congr 1; omega⟩
  refine ⟨fun i hi => (k i hi).imp fun e h => h.1, ?_⟩
  rw [← sumN_sub]
  refine sumN_congr fun i hi => ?_
  obtain ⟨e, h1, h2⟩ := k i hi
  rw [h1, h2]
  rfl
/-! ### rooms put one behind another -/
def Puts (n : Nat) (g : Gr) (t : Nat → Int) (L : List (Nat × Nat × Int)) : Prop := ∀ q, q ∈ L → q.1 < n ∧ q.2.1 < n ∧ q.2.1 ≠ q.1 ∧ g q.1 q.2.1 = some q.2.2 ∧ roomF n g t q.1 q.2.1 = some q.2.2
theorem puts_add (hn : 1 ≤ n) (hk : Kept n g t) {x y : Nat} {s : Int} (hx : x < n) (hy : y < n) (ne : y ≠ x) (hs : bestS n (gn g t) x y = some s) {L : List (Nat × Nat × Int)} (hL : Puts n g t L) : Puts n (full g t x y s) t (L ++ [(x, y, t x - s)]) := by
  have hk2 := full_kept hn hk hx hy hs
  intro q hq
  have self : roomF n (full g t x y s) t x y = some (t x - s) := by
    rw [room_put hk hx hy _ _ hy]
    unfold roomF
    rw [if_neg ne, hs]; rfl
  rcases List.mem_append.mp hq with hq | hq
  · obtain ⟨a1, a2, a3, a4, a5⟩ := hL q hq
    refine ⟨a1, a2, a3, ?_⟩
    by_cases c : q.1 = x ∧ q.2.1 = y
    · obtain ⟨c1, c2⟩ := c
      have e5 : q.2.2 = t x - s := by
        rw [c1, c2] at a5
        unfold roomF at a5
        rw [if_neg ne, hs] at a5
        exact (Option.some.inj a5).symm
      rw [c1, c2, e5]
      exact ⟨put_at, self⟩
    · have e4 : full g t x y s q.1 q.2.1 = some q.2.2 := by rw [← a4]; exact put_ne c
      refine ⟨e4, ?_⟩
      obtain ⟨s1, b1, b2⟩ := room_some a3 a5
      obtain ⟨F, τ, b⟩ := kept_best hk a1
      obtain ⟨F', τ', b'⟩ := kept_best hk2 a1
      obtain ⟨k, _, ch⟩ := best_chain b a1 a2 b1
      obtain ⟨s', h1, h2⟩ := ch.walk.ge (w' := off q.1 (gn (full g t x y s) t)) fun u w g' hu hw e => by
        obtain ⟨o1, o2⟩ := off_some e
        obtain ⟨ne', o3⟩ := gn_some o2
        by_cases c2 : u = x ∧ w = y
        · obtain ⟨rfl, rfl⟩ := c2
          have := entry_le hk hx hy ne o3 hs
          exact ⟨_, by rw [off_ne o1]; exact gn_put_at ne', by omega⟩
        · exact ⟨g', by rw [off_ne o1, gn_put_ne c2]; exact o2, Int.le_refl _⟩
      obtain ⟨s2, h3, h4⟩ := best_up b' h2
      have h5 := entry_le hk2 a1 a2 a3 e4 h3
      unfold roomF
      rw [if_neg a3, h3]
      show some (t q.1 - s2) = some q.2.2
      congr 1
      omega
  · rw [List.mem_singleton.mp hq]
    exact ⟨hx, hy, ne, put_at, self⟩
/-! ### costs -/
theorem cheap_put {r : Nat → Int} {x y : Nat} {e : Int} (hc : Cheap n g r t) (hk : Kept n (put g x y (some e)) t) (hle : ∀ e0, g x y = some e0 → e0 ≤ e) : Cheap n (put g x y (some e)) r t := by
  obtain ⟨_, h0, f, nn, row, col, pos, hw⟩ := hc
  refine ⟨hk, h0, f, nn, row, col, fun i j hi hj hf => ?_, Int.le_trans hw (sumN_le fun i hi => sumN_le fun j hj => ?_)⟩
  · by_cases c : i = x ∧ j = y
    · obtain ⟨rfl, rfl⟩ := c; exact ⟨e, put_at⟩
    · rw [put_ne c]; exact pos i j hi hj hf
  · have h1 := nn i j hi hj
    by_cases hf : 0 < f i j
    · refine Int.mul_le_mul_of_nonneg_left ?_ h1
      obtain ⟨w, hw⟩ := pos i j hi hj hf
      by_cases c : i = x ∧ j = y
      · obtain ⟨rfl, rfl⟩ := c; rw [put_at, hw]; exact hle w hw
      · rw [put_ne c]; exact Int.le_refl _
    · have : f i j = 0 := by omega
      rw [this, Int.zero_mul, Int.zero_mul]
      exact Int.le_refl 0
theorem put_dg {x y : Nat} {e : Option Int} (ne : y ≠ x) (hd : ∀ i, i < n → g i i = some 0) : ∀ i, i < n → put g x y e i i = some 0 := fun i hi => by
  rw [put_ne (fun z => ne (z.2.symm.trans z.1))]; exact hd i hi
theorem dot_up {r : Nat → Int} {d : Nat} (hd : d < n) : dot n r (up t d (t d + 1)) = dot n r t + r d := by
  unfold dot
  have e : sumN n (fun i => r i * up t d (t d + 1) i) = sumN n (fun i => r i * t i + if i = d then r d else 0) := sumN_congr fun i _ => by
    by_cases c : i = d
    · subst c; rw [up_same, if_pos rfl, Int.mul_add, Int.mul_one]
    · rw [up_ne c, if_neg c, Int.add_zero]
  rw [e, sumN_add, sum_ite hd]
theorem over_cost {r t2 : Nat → Int} {x y : Nat} {s : Int} (hn : 1 ≤ n) (hd : ∀ i, i < n → g i i = some 0) (hc : Cheap n g r t) (hx : x < n) (hy : y < n) (ne : y ≠ x) (hs : bestS n (gn g t) x y = some s) (h2 : Cheap n (over g t x y s) r t2) :
    dot n r t ≤ dot n r t2 ∧ dot n r t2 ≤ dot n r t + r x ∧ dot n r t2 ≤ dot n r t + r y := by
  have hk := hc.1
  have h0 := hc.2.1
  obtain ⟨_, _, f, nn, row, col, pos, hw⟩ := hc
  have dg := put_dg (g := g) (n := n) (x := x) (y := y) (e := some (t x - s + 1)) ne hd
  refine ⟨?_, ?_, ?_⟩
  · refine Int.le_trans hw (Int.le_trans ?_ (weak dg h2.1 h2.2.1 nn row col fun i j hi hj hf => ?_))
    · refine sumN_le fun i hi => sumN_le fun j hj => ?_
      have h1 := nn i j hi hj
      by_cases hf : 0 < f i j
      · refine Int.mul_le_mul_of_nonneg_left ?_ h1
        obtain ⟨w, hw⟩ := pos i j hi hj hf
        by_cases c : i = x ∧ j = y
        · obtain ⟨rfl, rfl⟩ := c
          have := entry_le hk hx hy ne hw hs
          rw [hw]
          show w ≤ (over g t i j s i j).getD 0
          rw [show over g t i j s i j = some (t i - s + 1) from put_at]
          show w ≤ t i - s + 1
          omega
        · rw [put_ne c]; exact Int.le_refl _
      · have : f i j = 0 := by omega
        rw [this, Int.zero_mul, Int.zero_mul]
        exact Int.le_refl 0
    · by_cases c : i = x ∧ j = y
      · obtain ⟨rfl, rfl⟩ := c; exact ⟨_, put_at⟩
      · rw [put_ne c]; exact pos i j hi hj hf
  · rw [← dot_up hx]
    refine h2.least dg (over_more hn hk hx hy hs (.inl rfl)) fun i hi => ?_
    by_cases c : i = x
    · subst c; rw [up_same]; have := h0 i hi; omega
    · rw [up_ne c]; exact h0 i hi
  · rw [← dot_up hy]
    refine h2.least dg (over_more hn hk hx hy hs (.inr rfl)) fun i hi => ?_
    by_cases c : i = y
    · subst c; rw [up_same]; have := h0 i hi; omega
    · rw [up_ne c]; exact h0 i hi
end
end K45
set_option Elab.async false
set_option linter.all false
set_option maxRecDepth 100000
set_option maxHeartbeats 1000000
namespace K45
open PySem PySem.Spec PyProof.Rows L2
open Sem (wp)
/-! ### zip of two tuples, the pair kept under a name -/
abbrev Zp (h : Heap) (z TI TO : Addr) (f0 : Value) (f1 : Bool) : Prop := h.get? z = some { cls := .type "zip", dict := none, data := .fields #[f0, .bool f1, .bool false, .ref TI, .ref TO], slots := #[] }
def Own (f0 : Value) : Prop := f0 = .none ∨ ∃ T : Addr, f0 = rawInt T
section
variable {prog : Program} {w : World} {A : Around} {E : Value → Shared → Prop} {s : Shared}
theorem alive_any {a : Addr} {Q : Option Obj → Shared → Prop} (h : Q (s.heap.get? a) s) : wpAny (model prog w) A (loadIfAlive a) Q E s := fun _ _ _ => h
theorem zp_free {z TI TO : Addr} {f0 : Value} {f1 : Bool} {Q : Bool → Shared → Prop} (hz : Zp s.heap z TI TO f0 f1) (ho : Own f0) (h : ∀ b h' f1', Zp h' z TI TO f0 f1' → Heap.SameBut z s.heap h' → Q b { s with heap := h' }) : wpAny (model prog w) A (Builtin.SmallTypes.ownedTupleIsFree (.ref z)) Q E s := by
  unfold Builtin.SmallTypes.ownedTupleIsFree
  rcases ho with rfl | ⟨T, rfl⟩
  · exact wpAny_bind (wpAny_field hz rfl (x := .none) rfl (wpAny_pure (h true s.heap f1 hz (Heap.SameBut.refl _ _))))
  · refine wpAny_bind (wpAny_field hz rfl (x := rawInt T) rfl ?_)
    show wpAny _ _ (loadIfAlive ((T : Int).toNat) >>= _) _ _ _
    rw [Int.toNat_natCast]
    refine wpAny_bind (alive_any ?_)
    cases hT : s.heap.get? T with
    | none =>
      simp only [Option.isNone_none, if_true]
      exact wpAny_pure (h true s.heap f1 hz (Heap.SameBut.refl _ _))
    | some oT =>
      simp only [Option.isNone_some, Bool.false_eq_true, if_false]
      refine wpAny_bind (wpAny_field hz rfl (x := .bool f1) rfl ?_)
      cases f1 with
      | true =>
        rw [if_neg (show ¬ ((Value.bool true != Value.bool true) = true) from Bool.false_ne_true)]
        exact wpAny_pure (h false s.heap true hz (Heap.SameBut.refl _ _))
      | false =>
        rw [if_pos (show (Value.bool false != Value.bool true) = true from rfl)]
        exact wpAny_bind (wpAny_setField_rec hz (by simp) fun h₁ hz₁ hs₁ => wpAny_pure (h false h₁ true hz₁ hs₁))
theorem zp_item {z TI TO i1 i2 l1 l2 : Addr} {k : Nat} {f0 : Value} {f1 : Bool} {xs ys : Array Value} {x y a b : Value} {Q : Value → Shared → Prop} (D : ZipApart z TI TO i1 i2 l1 l2)
    (hz0 : Zp s.heap z TI TO f0 f1) (ho : Own f0) (hTI0 : IsPair s.heap TI (.ref i1) (.ref i2)) (hTO0 : IsPair s.heap TO a b) (h10 : s.heap.IsTupleIter i1 l1 k) (h20 : s.heap.IsTupleIter i2 l2 k) (hl10 : s.heap.IsTuple l1 xs) (hl20 : s.heap.IsTuple l2 ys) (hx : xs[k]? = some x) (hy : ys[k]? = some y)
    (hQ : ∀ h' f1' a' b', Zp h' z TI TO (rawInt s.heap.objs.size) f1' ∨ Zp h' z TI TO f0 f1' → IsPair h' TO a' b' → h'.IsTupleIter i1 l1 (k + 1) → h'.IsTupleIter i2 l2 (k + 1) → IsPair h' s.heap.objs.size x y → h'.objs.size = s.heap.objs.size + 1 →
      (∀ c o, c ≠ z → c ≠ TO → c ≠ i1 → c ≠ i2 → s.heap.get? c = some o → h'.get? c = some o) → Q (.ref s.heap.objs.size) { s with heap := h' }) :
    wpAny (model prog w) A (Builtin.«zip.__next__» ⟨[.ref z], []⟩) (fun fin s' => ∃ v, fin = .done (.ret v) ∧ Q v s') E s := by
  show wpAny _ _ (field (.ref z) 2 >>= _) _ _ _
  refine wpAny_bind (wpAny_field hz0 rfl (x := .bool false) rfl ?_)
  show wpAny _ _ (field (.ref z) 3 >>= _) _ _ _
  refine wpAny_bind (wpAny_field hz0 rfl (x := .ref TI) rfl ?_)
  refine wpAny_bind (wpAny_seqItems hTI0 rfl ?_)
  show wpAny _ _ (Builtin.SmallTypes.ownedTupleIsFree (.ref z) >>= _) _ _ _
  refine wpAny_bind (zp_free hz0 ho fun fr h₀ g1 hz hs₀ => ?_)
  have hsz0 : h₀.objs.size = s.heap.objs.size := hs₀.1
  have hTI : IsPair h₀ TI (.ref i1) (.ref i2) := hs₀.extBut _ _ D.TIz hTI0
  have hTO : IsPair h₀ TO a b := hs₀.extBut _ _ D.TOz hTO0
  have h1 := h10.extBut hs₀.extBut D.i1z
  have h2 := h20.extBut hs₀.extBut D.i2z
  have hl1 := hl10.extBut hs₀.extBut D.l1z
  have hl2 := hl20.extBut hs₀.extBut D.l2z
  cases fr with
  | false =>
    simp only [Bool.false_eq_true, if_false]
    refine wpAny_bind ?_
    rw [← Array.forIn_toList]
    simp only [List.forIn_cons, List.forIn_nil]
    refine wpAny_bind (wpAny_bind (wpAny_holding ?_))
    show wpAny _ _ (Builtin.SmallTypes.nextOf (.ref i1) >>= _) _ _ _
    refine wpAny_bind (wpAny_nextOf_tuple_item (s := { s with heap := h₀ }) h1 hl1 hx fun h₂ h1₂ hs₂ => wpAny_pure ?_)
    refine wpAny_pure ?_
    refine wpAny_bind (wpAny_bind (wpAny_holding ?_))
    show wpAny _ _ (Builtin.SmallTypes.nextOf (.ref i2) >>= _) _ _ _
    refine wpAny_bind (wpAny_nextOf_tuple_item (s := { s with heap := h₂ }) (h2.extBut hs₂.extBut D.i12.symm) (hl2.extBut hs₂.extBut D.l2i1) hy fun h₃ h2₃ hs₃ => wpAny_pure ?_)
    refine wpAny_pure (wpAny_pure ?_)
    show wpAny _ _ (newTuple [x, y] >>= _) _ _ _
    refine wpAny_bind (wpAny_newTuple ?_)
    have hsz : h₃.objs.size = s.heap.objs.size := by rw [hs₃.1, hs₂.1, hs₀.1]
    have hz₃ : Zp h₃ z TI TO f0 g1 := hs₃.extBut _ _ D.i2z.symm (hs₂.extBut _ _ D.i1z.symm hz)
    have hTO₃ : IsPair h₃ TO a b := hs₃.extBut _ _ D.TOi2 (hs₂.extBut _ _ D.TOi1 hTO)
    have hk : ∀ c o, c ≠ z → c ≠ TO → c ≠ i1 → c ≠ i2 → s.heap.get? c = some o → h₃.get? c = some o := fun c o c1 _ c2 c3 e => hs₃.extBut _ _ c3 (hs₂.extBut _ _ c2 (hs₀.extBut _ _ c1 e))
    have h1₃ : h₃.IsTupleIter i1 l1 (k + 1) := h1₂.extBut hs₃.extBut D.i12
    refine wpAny_pure ⟨_, rfl, ?_⟩
    show Q (.ref h₃.objs.size) _
    have hp : IsPair (h₃.push { cls := .type "tuple", data := .seq #[x, y] }) h₃.objs.size x y := Heap.get?_push_size _ rfl
    have hz4 : (h₃.push { cls := .type "tuple", data := .seq #[x, y] }).objs.size = h₃.objs.size + 1 := Heap.size_push ..
    rw [hsz] at hp hz4 ⊢
    exact hQ _ g1 a b (.inr (Heap.get?_push_of_some _ hz₃)) (Heap.get?_push_of_some _ hTO₃) (h1₃.at fun o e => Heap.get?_push_of_some _ e) (h2₃.at fun o e => Heap.get?_push_of_some _ e) hp hz4 fun c o c1 c2 c3 c4 e => Heap.get?_push_of_some _ (hk c o c1 c2 c3 c4 e)
  | true =>
    simp only [if_true]
    refine wpAny_bind (wpAny_rule ?_)
    refine wpAny_bind (wpAny_field hz rfl (x := .ref TO) rfl ?_)
    refine wpAny_bind (wpAny_setField_rec hz (by simp) fun h₁ hz₁ hs₁ => ?_)
    replace hz₁ : Zp h₁ z TI TO .ellipsis g1 := hz₁
    refine wpAny_bind ?_
    simp only [List.zipIdx_cons, List.zipIdx_nil, List.forIn_cons, List.forIn_nil]
    refine wpAny_bind (wpAny_bind (wpAny_onRaise ?_))
    show wpAny _ _ (Builtin.SmallTypes.nextOf (.ref i1) >>= _) _ _ _
    refine wpAny_bind (wpAny_nextOf_tuple_item (h1.extBut hs₁.extBut D.i1z) (hl1.extBut hs₁.extBut D.l1z) hx fun h₂ h1₂ hs₂ => wpAny_pure ?_)
    have hTO₂ : IsPair h₂ TO a b := hs₂.extBut _ _ D.TOi1 (hs₁.extBut _ _ D.TOz hTO)
    refine wpAny_bind (wpAny_seqItems hTO₂ rfl ?_)
    refine wpAny_bind (wpAny_updateSeq_pair hTO₂ fun h₃ hTO₃ hs₃ => ?_)
    replace hTO₃ : IsPair h₃ TO x b := hTO₃
    refine wpAny_bind (wpAny_letGo (wpAny_pure ?_))
    refine wpAny_bind (wpAny_bind (wpAny_onRaise ?_))
    show wpAny _ _ (Builtin.SmallTypes.nextOf (.ref i2) >>= _) _ _ _
    refine wpAny_bind (wpAny_nextOf_tuple_item (((h2.extBut hs₁.extBut D.i2z).extBut hs₂.extBut D.i12.symm).extBut hs₃.extBut D.TOi2.symm) (((hl2.extBut hs₁.extBut D.l2z).extBut hs₂.extBut D.l2i1).extBut hs₃.extBut D.l2TO) hy fun h₄ h2₄ hs₄ => wpAny_pure ?_)
    have hTO₄ : IsPair h₄ TO x b := hs₄.extBut _ _ D.TOi2 hTO₃
    refine wpAny_bind (wpAny_seqItems hTO₄ rfl ?_)
    refine wpAny_bind (wpAny_updateSeq_pair hTO₄ fun h₅ hTO₅ hs₅ => ?_)
    replace hTO₅ : IsPair h₅ TO x y := hTO₅
    refine wpAny_bind (wpAny_letGo (wpAny_pure (wpAny_pure ?_)))
    refine wpAny_bind (wpAny_seqItems hTO₅ rfl ?_)
    refine wpAny_bind (wpAny_newTuple ?_)
    have hsz : h₅.objs.size = s.heap.objs.size := by rw [hs₅.1, hs₄.1, hs₃.1, hs₂.1, hs₁.1, hs₀.1]
    have hz₅ : Zp h₅ z TI TO .ellipsis g1 := hs₅.extBut _ _ D.TOz.symm (hs₄.extBut _ _ D.i2z.symm (hs₃.extBut _ _ D.TOz.symm (hs₂.extBut _ _ D.i1z.symm hz₁)))
    have hk₅ : ∀ c o, c ≠ z → c ≠ TO → c ≠ i1 → c ≠ i2 → s.heap.get? c = some o → h₅.get? c = some o := fun c o c1 c2 c3 c4 e =>
      hs₅.extBut _ _ c2 (hs₄.extBut _ _ c4 (hs₃.extBut _ _ c2 (hs₂.extBut _ _ c3 (hs₁.extBut _ _ c1 (hs₀.extBut _ _ c1 e)))))
    have h1₅ : h₅.IsTupleIter i1 l1 (k + 1) := ((h1₂.extBut hs₃.extBut D.TOi1.symm).extBut hs₄.extBut D.i12).extBut hs₅.extBut D.TOi1.symm
    have h2₅ : h₅.IsTupleIter i2 l2 (k + 1) := h2₄.extBut hs₅.extBut D.TOi2.symm
    have hzlt : z < h₅.objs.size := Heap.lt_size hz₅
    show wpAny _ _ (Builtin.SmallTypes.ownedTupleHandOut (.ref z) (.ref h₅.objs.size) >>= _) _ _ _
    refine wpAny_bind ?_
    unfold Builtin.SmallTypes.ownedTupleHandOut
    have hz₆ : Zp (h₅.push { cls := .type "tuple", data := .seq #[x, y] }) z TI TO .ellipsis g1 := Heap.get?_push_of_some _ hz₅
    refine wpAny_bind (wpAny_setField_rec hz₆ (by simp) fun h₇ hz₇ hs₇ => ?_)
    replace hz₇ : Zp h₇ z TI TO (rawInt h₅.objs.size) g1 := hz₇
    refine wpAny_setField_rec hz₇ (by simp) fun h₈ hz₈ hs₈ => ?_
    replace hz₈ : Zp h₈ z TI TO (rawInt h₅.objs.size) false := hz₈
    have upp : ∀ c o, c ≠ z → h₅.get? c = some o → h₈.get? c = some o := fun c o c1 e => hs₈.extBut _ _ c1 (hs₇.extBut _ _ c1 (Heap.get?_push_of_some _ e))
    have hT₈ : IsPair h₈ h₅.objs.size x y := hs₈.extBut _ _ (Nat.ne_of_gt hzlt) (hs₇.extBut _ _ (Nat.ne_of_gt hzlt) (Heap.get?_push_size _ rfl))
    have hz8 : h₈.objs.size = h₅.objs.size + 1 := by rw [hs₈.1, hs₇.1, Heap.size_push]
    rw [hsz] at hz₈ hT₈ hz8
    refine wpAny_pure ⟨_, rfl, ?_⟩
    show Q (.ref h₅.objs.size) _
    rw [hsz]
    exact hQ h₈ false x y (.inl hz₈) (upp _ _ D.TOz hTO₅) (h1₅.at fun o e => upp _ o D.i1z e) (h2₅.at fun o e => upp _ o D.i2z e) hT₈ hz8 fun c o c1 c2 c3 c4 e => upp c o c1 (hk₅ c o c1 c2 c3 c4 e)
end
end K45
set_option Elab.async false
set_option linter.all false
set_option maxRecDepth 100000
set_option maxHeartbeats 1000000
namespace K45
open PySem PySem.Spec PyProof.Rows L2
open Sem (wp)
section
variable {prog : Program} {w : World} {A : Around} {E : Value → Shared → Prop} {s : Shared}
theorem zp_end {z TI TO i1 i2 l1 l2 : Addr} {k : Nat} {f0 : Value} {f1 : Bool} {xs ys : Array Value} {a b : Value} {Q : Fin → Shared → Prop} (hh : A.handled = none) (D : ZipApart z TI TO i1 i2 l1 l2)
    (hz0 : Zp s.heap z TI TO f0 f1) (ho : Own f0) (hTI0 : IsPair s.heap TI (.ref i1) (.ref i2)) (hTO0 : IsPair s.heap TO a b) (h10 : s.heap.IsTupleIter i1 l1 k) (hl10 : s.heap.IsTuple l1 xs) (hx : xs[k]? = none)
    (hE : ∀ h' e, (∀ c o, c ≠ z → c ≠ TO → c ≠ i1 → c ≠ i2 → s.heap.get? c = some o → h'.get? c = some o) → (∃ o, h'.get? e = some o ∧ o.cls = .type "StopIteration") → E (.ref e) { s with heap := h' }) :
    wpAny (model prog w) A (Builtin.«zip.__next__» ⟨[.ref z], []⟩) Q E s := by
  show wpAny _ _ (field (.ref z) 2 >>= _) _ _ _
  refine wpAny_bind (wpAny_field hz0 rfl (x := .bool false) rfl ?_)
  show wpAny _ _ (field (.ref z) 3 >>= _) _ _ _
  refine wpAny_bind (wpAny_field hz0 rfl (x := .ref TI) rfl ?_)
  refine wpAny_bind (wpAny_seqItems hTI0 rfl ?_)
  show wpAny _ _ (Builtin.SmallTypes.ownedTupleIsFree (.ref z) >>= _) _ _ _
  refine wpAny_bind (zp_free hz0 ho fun fr h₀ g1 hz hs₀ => ?_)
  have h1 := h10.extBut hs₀.extBut D.i1z
  have hl1 := hl10.extBut hs₀.extBut D.l1z
  cases fr with
  | false =>
    simp only [Bool.false_eq_true, if_false]
    refine wpAny_bind ?_
    rw [← Array.forIn_toList]
    simp only [List.forIn_cons, List.forIn_nil]
    refine wpAny_bind (wpAny_bind (wpAny_holding ?_))
    show wpAny _ _ (Builtin.SmallTypes.nextOf (.ref i1) >>= _) _ _ _
    refine wpAny_bind (wpAny_nextOf_tuple_end (s := { s with heap := h₀ }) hh h1 hl1 hx fun h₂ e hs₂ he => ?_)
    exact hE h₂ e (fun c o c1 _ c2 _ x => hs₂ _ _ c2 (hs₀.extBut _ _ c1 x)) he
  | true =>
    simp only [if_true]
    refine wpAny_bind (wpAny_rule ?_)
    refine wpAny_bind (wpAny_field hz rfl (x := .ref TO) rfl ?_)
    refine wpAny_bind (wpAny_setField_rec hz (by simp) fun h₁ hz₁ hs₁ => ?_)
    replace hz₁ : Zp h₁ z TI TO .ellipsis g1 := hz₁
    refine wpAny_bind ?_
    simp only [List.zipIdx_cons, List.zipIdx_nil, List.forIn_cons, List.forIn_nil]
    refine wpAny_bind (wpAny_bind (wpAny_onRaise ?_))
    show wpAny _ _ (Builtin.SmallTypes.nextOf (.ref i1) >>= _) _ _ _
    refine wpAny_bind (wpAny_nextOf_tuple_end hh (h1.extBut hs₁.extBut D.i1z) (hl1.extBut hs₁.extBut D.l1z) hx fun h₂ e hs₂ he => ?_)
    obtain ⟨oe, hoe, hce⟩ := he
    have hz₂ : Zp h₂ z TI TO .ellipsis g1 := hs₂ _ _ D.i1z.symm hz₁
    have hez : e ≠ z := fun x => by subst x; rw [hz₂] at hoe; cases hoe; simp at hce
    refine wpAny_setField_rec hz₂ (by simp) fun h₃ _ hs₃ => hE h₃ e (fun c o c1 _ c3 _ x => hs₃.extBut _ _ c1 (hs₂ _ _ c3 (hs₁.extBut _ _ c1 (hs₀.extBut _ _ c1 x)))) ⟨oe, hs₃.extBut _ _ hez hoe, hce⟩
theorem zp_next {z TI TO i1 i2 l1 l2 : Addr} {k : Nat} {f0 : Value} {f1 : Bool} {xs ys : Array Value} {x y a b : Value} {Q : Option Value → Shared → Prop} (D : ZipApart z TI TO i1 i2 l1 l2)
    (hz : Zp s.heap z TI TO f0 f1) (ho : Own f0) (hTI : IsPair s.heap TI (.ref i1) (.ref i2)) (hTO : IsPair s.heap TO a b) (h1 : s.heap.IsTupleIter i1 l1 k) (h2 : s.heap.IsTupleIter i2 l2 k) (hl1 : s.heap.IsTuple l1 xs) (hl2 : s.heap.IsTuple l2 ys) (hx : xs[k]? = some x) (hy : ys[k]? = some y)
    (hQ : ∀ h' f1' a' b', Zp h' z TI TO (rawInt s.heap.objs.size) f1' ∨ Zp h' z TI TO f0 f1' → IsPair h' TO a' b' → h'.IsTupleIter i1 l1 (k + 1) → h'.IsTupleIter i2 l2 (k + 1) → IsPair h' s.heap.objs.size x y → h'.objs.size = s.heap.objs.size + 1 →
      (∀ c o, c ≠ z → c ≠ TO → c ≠ i1 → c ≠ i2 → s.heap.get? c = some o → h'.get? c = some o) → Q (some (.ref s.heap.objs.size)) { s with heap := h' }) :
    wpAny (model prog w) A (pyNext (.ref z)) Q E s := by
  have hTy : s.TypeIs (.ref z) "zip" := ⟨_, hz, rfl⟩
  unfold pyNext
  exact wpAny_bind (wpAny_attempt (wpAny_callSpecial?_slot (name := Str.ofString "__next__") hTy F.slot_zip_next
    (wpAny_call_entry F.slot_zip_next hTy F.entry_zip_next
      (zp_item D hz ho hTI hTO h1 h2 hl1 hl2 hx hy fun h' f1' a' b' q1 q2 q3 q4 q5 q6 q7 => wpAny_pure (hQ h' f1' a' b' q1 q2 q3 q4 q5 q6 q7)) (F.args_zip_next_1 _))))
theorem zp_stop {z TI TO i1 i2 l1 l2 : Addr} {k : Nat} {f0 : Value} {f1 : Bool} {xs ys : Array Value} {a b : Value} {Q : Option Value → Shared → Prop} (hh : A.handled = none) (D : ZipApart z TI TO i1 i2 l1 l2)
    (hz : Zp s.heap z TI TO f0 f1) (ho : Own f0) (hTI : IsPair s.heap TI (.ref i1) (.ref i2)) (hTO : IsPair s.heap TO a b) (h1 : s.heap.IsTupleIter i1 l1 k) (hl1 : s.heap.IsTuple l1 xs) (hx : xs[k]? = none)
    (hQ : ∀ h', (∀ c o, c ≠ z → c ≠ TO → c ≠ i1 → c ≠ i2 → s.heap.get? c = some o → h'.get? c = some o) → Q none { s with heap := h' }) : wpAny (model prog w) A (pyNext (.ref z)) Q E s := by
  have hTy : s.TypeIs (.ref z) "zip" := ⟨_, hz, rfl⟩
  unfold pyNext
  refine wpAny_bind (wpAny_attempt (wpAny_callSpecial?_slot (name := Str.ofString "__next__") hTy F.slot_zip_next
    (wpAny_call_entry F.slot_zip_next hTy F.entry_zip_next (zp_end (ys := ys) hh D hz ho hTI hTO h1 hl1 hx fun h' e hk he => ?_) (F.args_zip_next_1 _))))
  obtain ⟨o, ho, hc⟩ := he
  refine wpAny_bind (wpAny_isInstance (T := "StopIteration") (b := true) ⟨o, ho, hc⟩ isSubtype_stop ?_)
  exact wpAny_pure (hQ _ hk)
end
/-- pairs of two tuples of one length, whole -/
def Itz1 (K : PySem.W.Frag) (a b : Addr) : It :=
  ⟨fun i H => ∃ (xs ys : List V) (x y : V), SqT K H a xs ∧ SqT K H b ys ∧ xs[i]? = some x ∧ ys[i]? = some y,
    fun i H v H' => ∃ T x y, v = .ref T ∧ H T = none ∧ H' = upd H T (.tup [x, y]) ∧ (∀ xs, SqT K H a xs → xs[i]? = some x) ∧ ∀ ys, SqT K H b ys → ys[i]? = some y,
    fun i H => ∃ xs : List V, SqT K H a xs ∧ xs.length = i⟩
theorem k_turn_zip1 {P : Program} {w : World} {K : PySem.W.Frag} {nm : Str} {tpos : Pos} {a b z TI TO i1 i2 : Addr} (D : ZipApart z TI TO i1 i2 a b) :
    Turn P w K (.Name nm tpos) (Itz1 K a b) [z, TI, TO, i1, i2] z (fun i h => (∃ f0 f1, Zp h z TI TO f0 f1 ∧ Own f0) ∧ IsPair h TI (.ref i1) (.ref i2) ∧ (∃ x y, IsPair h TO x y) ∧ h.IsTupleIter i1 a i ∧ h.IsTupleIter i2 b i) where
  mem := by simp
  obj := fun i h st c hc => by
    obtain ⟨⟨f0, f1, hz, _⟩, hTI, ⟨x, y, hTO⟩, ⟨o1, e1, _, d1⟩, ⟨o2, e2, _, d2⟩⟩ := st
    have e' : c = z ∨ c = TI ∨ c = TO ∨ c = i1 ∨ c = i2 := by simpa using hc
    rcases e' with q | q | q | q | q
    · rw [q]; exact ⟨_, hz, fun v q => nomatch q⟩
    · rw [q]; exact ⟨_, hTI, fun v q => nomatch q⟩
    · rw [q]; exact ⟨_, hTO, fun v q => nomatch q⟩
    · rw [q]; exact ⟨o1, e1, fun v q => by rw [d1] at q; cases q⟩
    · rw [q]; exact ⟨o2, e2, fun v q => by rw [d2] at q; cases q⟩
  keep := fun i h h' st k => by
    obtain ⟨⟨f0, f1, hz, ho⟩, hTI, ⟨x, y, hTO⟩, h1, h2⟩ := st
    exact ⟨⟨f0, f1, k z (by simp) _ hz, ho⟩, k TI (by simp) _ hTI, ⟨x, y, k TO (by simp) _ hTO⟩, h1.at fun o q => k i1 (by simp) o q, h2.at fun o q => k i2 (by simp) o q⟩
  item := by
    intro X hP hw hK hc i pins s σ H E I hf st hg
    subst hP hw hK
    obtain ⟨⟨f0, f1, hz, ho⟩, hTI, ⟨x0, y0, hTO⟩, h1, h2⟩ := st
    obtain ⟨xs, ys, x, y, hqx, hqy, hx, hy⟩ := hg
    obtain ⟨its, rv, p, _⟩ := I.tuple hqx
    obtain ⟨its2, rv2, p2, _⟩ := I.tuple hqy
    obtain ⟨u, hu, ru⟩ := rv.get hx
    obtain ⟨u2, hu2, ru2⟩ := rv2.get hy
    have hzl : z < s.heap.objs.size := Heap.lt_size hz
    refine zp_next D hz ho hTI hTO h1 h2 p p2 (x := u) (y := u2) (by simpa using hu) (by simpa using hu2) fun h' f1' a' b' z' TO' h1' h2' hT hsz hk => ?_
    refine ⟨_, rfl, wpAny_pure ?_⟩
    have new : ObjOk X.prog X.w (upd H s.heap.objs.size (.tup [x, y])) h' s.heap.objs.size (.tup [x, y]) :=
      ⟨by show 2 ≤ sizeLine; decide, [u, u2], .cons ru (.cons ru2 .nil), ⟨_, hT, rfl, _, rfl⟩⟩
    have I1 : Inv X pins σ (upd H s.heap.objs.size (.tup [x, y])) { s with heap := h' } :=
      I.turnedNew (t' := s.toks) (ch := [z, TI, TO, i1, i2]) (fun c o hb q => hk c o (fun q' => hb (by simp [q'])) (fun q' => hb (by simp [q'])) (fun q' => hb (by simp [q'])) (fun q' => hb (by simp [q'])) q) hf (Nat.le_refl _) new
    refine ⟨.ref s.heap.objs.size, _, I1, rfl, ⟨_, x, y, rfl, I.hok.fresh (Nat.le_refl _), rfl, fun l hl => by rw [I.tuple_inj hl hqx]; exact hx, fun l hl => by rw [I.tuple_inj hl hqy]; exact hy⟩, ⟨?_, ?_, ⟨a', b', TO'⟩, h1', h2'⟩, fun c hcm => ?_⟩
    · rcases z' with z' | z'
      · exact ⟨_, f1', z', .inr ⟨_, rfl⟩⟩
      · exact ⟨_, f1', z', ho⟩
    · exact hk _ _ D.TIz D.TITO D.TIi1 D.TIi2 hTI
    · have hlt : c < s.heap.objs.size := by
        have e' : c = z ∨ c = TI ∨ c = TO ∨ c = i1 ∨ c = i2 := by simpa using hcm
        rcases e' with q | q | q | q | q
        · rw [q]; exact hzl
        · rw [q]; exact Heap.lt_size hTI
        · rw [q]; exact Heap.lt_size hTO
        · rw [q]; obtain ⟨_, e1, _⟩ := h1; exact Heap.lt_size e1
        · rw [q]; obtain ⟨_, e2, _⟩ := h2; exact Heap.lt_size e2
      rw [upd_ne (Nat.ne_of_lt hlt)]
      exact (hf c hcm).1
  done := by
    intro X hP hw hK hc i pins s σ H E I hf st hg
    subst hP hw hK
    obtain ⟨⟨f0, f1, hz, ho⟩, hTI, ⟨x0, y0, hTO⟩, h1, h2⟩ := st
    obtain ⟨xs, hqx, hend⟩ := hg
    obtain ⟨its, rv, p, _⟩ := I.tuple hqx
    have l1 := rv.length
    exact zp_stop (ys := #[]) (I.ok.hd hc) D hz ho hTI hTO h1 p (by simp; omega) fun h' hk => ⟨rfl, I.turnedL (t' := s.toks) (ch := [z, TI, TO, i1, i2]) (fun c o hb q =>
      hk c o (fun q' => hb (by simp [q'])) (fun q' => hb (by simp [q'])) (fun q' => hb (by simp [q'])) (fun q' => hb (by simp [q'])) q) hf⟩
  self := fun A i s Q E st h => by
    obtain ⟨⟨f0, f1, hz, _⟩, _⟩ := st
    have hT : s.TypeIs (.ref z) "zip" := ⟨_, hz, rfl⟩
    refine wpAny_pyIter_slot hT F.slot_zip_iter (wpAny_call_entry F.slot_zip_iter hT F.entry_zip_iter ?_ (F.args_zip_iter_1 _))
    show wpAny _ _ (ret (.ref z)) _ _ s
    exact wpAny_pure ⟨_, rfl, "zip", _, hT, F.slot_zip_next.lookup, h⟩
def iZip1 (K : PySem.W.Frag) (ta : TA) : TI := fun σ H R => ta σ H fun vs H1 => ∃ a b xs ys, vs = [.ref a, .ref b] ∧ SqT K H1 a xs ∧ SqT K H1 b ys ∧ R (Itz1 K a b) H1
theorem pi_zip1 {X : Cx} {e e2 : Expr} {ta : TA} {p pos tpos : Pos} {nm : Str} (hg : Gl X "zip") (hm : X.mg "zip" = none) (ha : PA X [e, e2] ta)
    (hs : starEach [e, e2] X.env = (false, eval e X.env) :: starEach [e2] X.env := by rfl) (hpl : (backTo pos (starEach [e2] X.env)).any (·.1) = false := by rfl) :
    PI X (.Name nm tpos) (.Call (.Name "zip" p) [e, e2] [] pos) (iZip1 X.K ta) := by
  refine ⟨fun pins s σ H R I h => ?_⟩
  refine Call_ (ld_blt I hg hm PyProof.Rows.boot_zip (PyProof.Rows.callWith_type1 (thn (ha.run pos pins s σ H _ I h) fun us s1 ⟨vs, H1, I1, r1, q1⟩ => ?_) hs hpl))
  obtain ⟨a, b, xs, ys, ex, hqx, hqy, q⟩ := q1
  subst ex
  cases r1 with
  | cons r rr =>
    cases rr with
    | cons r' rr =>
      cases rr
      cases r
      cases r'
      obtain ⟨its, rv, p1, _⟩ := I1.tuple hqx
      obtain ⟨its2, rv2, p2, _⟩ := I1.tuple hqy
      obtain ⟨o1, ho1, _⟩ := id p1
      obtain ⟨o2, ho2, _⟩ := id p2
      refine RZ.call_zipT (show s1.heap.IsTuple a its.toArray from p1) (show s1.heap.IsTuple b its2.toArray from p2) fun h' hz hTI hTO h1 h2 hsz hk => wpAny_pyIter_zip hz ?_
      have I2 : Inv X pins σ H1 { s1 with heap := h' } := I1.kept (t' := s1.toks) hk
      refine ⟨s1.heap.objs.size + 4, [s1.heap.objs.size + 4, s1.heap.objs.size + 2, s1.heap.objs.size + 3, s1.heap.objs.size, s1.heap.objs.size + 1], _, _, H1, rfl, I2, k_turn_zip1 (PySem.W.ktu_apart s1.heap.objs.size a b (Heap.lt_size ho1) (Heap.lt_size ho2)), ⟨⟨_, _, hz, .inl rfl⟩, hTI, ⟨_, _, hTO⟩, h1, h2⟩, fun c hcm => ?_, q⟩
      have hle : s1.heap.objs.size ≤ c := by
        have e' : c = s1.heap.objs.size + 4 ∨ c = s1.heap.objs.size + 2 ∨ c = s1.heap.objs.size + 3 ∨ c = s1.heap.objs.size ∨ c = s1.heap.objs.size + 1 := by simpa using hcm
        rcases e' with z | z | z | z | z
        · rw [z]; exact Nat.le_add_right _ _
        · rw [z]; exact Nat.le_add_right _ _
        · rw [z]; exact Nat.le_add_right _ _
        · rw [z]; exact Nat.le_refl _
        · rw [z]; exact Nat.le_add_right _ _
      exact I1.fpOk hle (I1.hok.fresh hle)
end K45
set_option Elab.async false
set_option linter.all false
set_option maxRecDepth 100000
set_option maxHeartbeats 3200000
namespace K45
open PySem PySem.Spec PyProof.Rows L2
open Sem (wp)
/-- how a tuple is walked, whatever stands around -/
def TupW (prog : Program) (w : World) (A : Around) (J : Heap → Prop) (fx : List Addr) : Prop := ∀ (I ax : Addr) (items : Array Value), ax ≠ I → I ∉ fx → Walks prog w A I (I :: ax :: fx) [I] items.size (fun i v => items[i]? = some v) (fun i h => h.IsTupleIter I ax i ∧ h.IsTuple ax items ∧ J h)
theorem tupW_calm {prog : Program} {w : World} {A : Around} (hh : A.handled = none) : TupW prog w A (fun _ => True) [] := fun I ax items hne _ => by
  have W := Walks.tuple (prog := prog) (w := w) hh I ax hne items
  exact { sub := W.sub, frame := fun i h h' st hk => let q := W.frame i h h' ⟨st.1, st.2.1⟩ hk; ⟨q.1, q.2, trivial⟩,
          item := fun i s Q E hi st hQ => W.item i s Q E hi ⟨st.1, st.2.1⟩ fun v h' tk hP hst hk => hQ v h' tk hP ⟨hst.1, hst.2, trivial⟩ hk,
          done := fun s Q E st hQ => W.done s Q E ⟨st.1, st.2.1⟩ hQ,
          self := fun i s Q E st hQ => W.self i s Q E ⟨st.1, st.2.1⟩ hQ }
section
variable {prog : Program} {w : World} {A : Around} {E : Value → Shared → Prop} {s : Shared}
theorem call_set_tupW {l : Addr} {items : Array Value} {ns : List Int} {Q : Value → Shared → Prop} {J : Heap → Prop} {fx : List Addr}
    (HW : TupW prog w A.in1.in1.in1 J fx) (hJ : J s.heap) (hJk : ∀ h h' : Heap, J h → (∀ b ∈ fx, ∀ o, h.get? b = some o → h'.get? b = some o) → J h') (hfx : ∀ b ∈ fx, b < s.heap.objs.size) (hl : s.heap.IsTuple l items) (hi : PyProof.Rows.IntsAre items.toList ns) (hb : items.size + 1 < scanBound)
    (h : ∀ (h' : Heap) (tk : Nat), h'.SetOf (intKind prog w) s.heap.objs.size (fun k' => (PyProof.Rows.firstMet (fun i => ns.getD i 0) items.size).any (· == k')) (PyProof.Rows.firstMet (fun i => ns.getD i 0) items.size).length →
      (∀ b o, b < s.heap.objs.size → s.heap.get? b = some o → h'.get? b = some o) → Q (.ref s.heap.objs.size) { s with heap := h', toks := tk }) :
    wpAny (model prog w) A (call (.type "set") [.ref l]) Q E s := by
  obtain ⟨c, tl, hmro⟩ := PySem.F.called_set.mro
  have hmade := PySem.F.called_set.made
  have hsub := PySem.F.called_set.sub
  refine wpAny_call (codeAny_of_tree ?_)
  show wpAny _ _ (callAny (.type "set") _) _ _ _
  refine wpAny_pure ⟨Code.quiet_builtin _ (by decide +kernel), codeAny_builtin PySem.F.entry_type_call ?_⟩
  rw [Around.under_plain (weight_type_call_type "set" [.ref l] []) rfl]
  have h1 := PySem.F.called_set.notType
  have h2 := PySem.F.called_set.canCreate
  have hct := PySem.F.typeCall_set_1 (.ref l)
  repeat (any_goals (first | assumption | wp_step))
  refine codeAny_mono (code_set_new_1 (.ref l) (E := E) (Q₁ := fun obj s₁ => ∃ led : Bool, obj = .ref s.heap.objs.size ∧ s₁ = { s with heap := s.heap.push { cls := .type "set", dict := none, data := .set #[] 0 (.fresh 0 0 led) } }) fun led => ⟨led, rfl, rfl⟩) fun r s₁ hr => ?_
  cases r with
  | error e => exact hr
  | ok fl =>
    cases fl with
    | ret obj =>
      obtain ⟨led, rfl, rfl⟩ := hr
      have hS : (s.heap.push { cls := .type "set", dict := none, data := .set #[] 0 (.fresh 0 0 led) }).get? s.heap.objs.size = some { cls := .type "set", dict := none, data := .set #[] 0 (.fresh 0 0 led) } := Heap.get?_push_size _ rfl
      have hT : Shared.TypeIs { s with heap := s.heap.push { cls := .type "set", dict := none, data := .set #[] 0 (.fresh 0 0 led) } } (.ref s.heap.objs.size) "set" := ⟨_, hS, rfl⟩
      have hli := PySem.F.called_set.init.lookup
      have hbi := PySem.F.called_set.init.bind (.ref s.heap.objs.size)
      repeat (any_goals (first | assumption | wp_step))
      refine codeAny_mono (codeAny_call_builtin (R := wants (fun r s₂ => r = .none ∧ ∃ h' tk, s₂ = { s with heap := h', toks := tk } ∧
          h'.SetOf (intKind prog w) s.heap.objs.size (fun k' => (PyProof.Rows.firstMet (fun i => ns.getD i 0) items.size).any (· == k')) (PyProof.Rows.firstMet (fun i => ns.getD i 0) items.size).length ∧
          (∀ b o, b < s.heap.objs.size → s.heap.get? b = some o → h'.get? b = some o)) E) PySem.F.called_set.init.plain PySem.F.entry_set_init (check_set_init_1 hT ?_)) fun r₂ s₂ hr₂ => ?_
      · obtain ⟨ol, hol, hcl, nl, hdl⟩ := hl
        obtain ⟨ocls, odict, odata, oslots⟩ := ol
        simp only at hcl hdl
        subst hcl; subst hdl
        have hol' : (s.heap.push { cls := .type "set", dict := none, data := .set #[] 0 (.fresh 0 0 led) }).get? l = some { cls := .type "tuple", dict := odict, data := .seq items nl, slots := oslots } := Heap.get?_push_of_some _ hol
        have hsls := PySem.F.sub_tuple_set
        have hslf := PySem.F.sub_tuple_frozenset
        have hne : (Value.type "tuple" == Value.type "dict") = false := by decide
        have hl1 : (s.heap.push { cls := .type "set", dict := none, data := .set #[] 0 (.fresh 0 0 led) }).IsTuple l items := ⟨_, hol', rfl, nl, rfl⟩
        unfold Builtin.«set.__init__» noKeywords Builtin.Frozenset.updateFrom
        generalize hPI : pyIter = PI
        wp_walk
        subst hPI
        refine wpAny_pyIter_tuple hl1 ?_
        refine wpAny_bind (wpAny_runValue ?_)
        have hlS : l < s.heap.objs.size := Heap.lt_size hol
        have hz1 : (s.heap.push { cls := .type "set", dict := none, data := .set #[] 0 (.fresh 0 0 led) }).objs.size = s.heap.objs.size + 1 := Heap.size_push ..
        have hneI : l ≠ (s.heap.push { cls := .type "set", dict := none, data := .set #[] 0 (.fresh 0 0 led) }).objs.size := by
          rw [Heap.size_push]; exact Nat.ne_of_lt (Nat.lt_succ_of_lt hlS)
        have hIx : (s.heap.push { cls := .type "set", dict := none, data := .set #[] 0 (.fresh 0 0 led) }).objs.size ∉ fx := fun z => by
          have q := hfx _ z
          rw [hz1] at q
          exact absurd (Nat.lt_trans (Nat.lt_succ_self _) q) (Nat.lt_irrefl _)
        have hSf : s.heap.objs.size ∉ (s.heap.push { cls := .type "set", dict := none, data := .set #[] 0 (.fresh 0 0 led) }).objs.size :: l :: fx := by
          rw [Heap.size_push]; simp only [List.mem_cons, not_or]
          exact ⟨Nat.ne_of_lt (Nat.lt_succ_self _), Nat.ne_of_gt hlS, fun z => absurd (hfx _ z) (Nat.lt_irrefl _)⟩
        have hval : ∀ (i : Nat) (v : Value), items[i]? = some v → ∃ t, v = .int ((fun i => ns.getD i 0) i) t := fun i v hv =>
          PyProof.Rows.IntsAre.int_at hi i v (by rw [Array.getElem?_toList]; exact hv)
        refine PyProof.Rows.codeAny_set_update_loopS ((HW _ l items hneI hIx).toS) s.heap.objs.size
          hSf (fun i => ns.getD i 0) hval hb (items.size - 0) 0 _ (by omega) (Nat.zero_le _)
          ?hst ?hS0 ?hR
        case hst => exact ⟨⟨_, Heap.get?_push_size _ rfl, rfl, rfl⟩, (hl1.push _), hJk s.heap _ hJ fun b _ o e => Heap.get?_push_of_some _ (Heap.get?_push_of_some _ e)⟩
        case hS0 =>
          have hget : ((s.heap.push { cls := .type "set", dict := none, data := .set #[] 0 (.fresh 0 0 led) }).push { cls := .type "tuple_iterator", data := .fields #[.ref l, .int 0 0] }).get? s.heap.objs.size
              = some { cls := .type "set", dict := none, data := .set #[] 0 (.fresh 0 0 led) } := Heap.get?_push_of_some _ hS
          exact PyProof.Rows.SetOf_congr ((PyProof.Rows.setObjOf_fresh (knd := intKind prog w) led).setOf hget (by unfold scanBound; omega)) (fun _ => rfl) rfl
        case hR =>
          intro s' hm hS'
          obtain ⟨h', g', d', tk', os'⟩ := s'
          have eg : g' = s.gens := hm.gens
          have ed : d' = s.drawn := hm.drawn
          have eo : os' = s.os := hm.os
          subst eg; subst ed; subst eo
          show wpAny _ _ _ _ _ _
          refine wpAny_pure ?_
          show wpAny _ _ (ret Value.none) _ _ _
          refine wpAny_pure ⟨rfl, h', tk', rfl, hS', fun b o hb e => ?_⟩
          have hb1 : b ≠ s.heap.objs.size := Nat.ne_of_lt hb
          have hb2 : b ≠ (s.heap.push { cls := .type "set", dict := none, data := .set #[] 0 (.fresh 0 0 led) }).objs.size := by
            rw [Heap.size_push]; exact Nat.ne_of_lt (Nat.lt_succ_of_lt hb)
          exact hm.heap b o (by simp only [List.mem_cons, List.mem_singleton, List.not_mem_nil, or_false, not_or]; exact ⟨hb1, hb2⟩) (Heap.get?_push_of_some _ (Heap.get?_push_of_some _ e))
      · cases r₂ with
        | error e => exact hr₂
        | ok fl₂ =>
          cases fl₂ with
          | ret r =>
            obtain ⟨rfl, h', tk, rfl, hS', hk'⟩ := hr₂
            repeat (any_goals (first | assumption | wp_step))
            exact h _ _ hS' hk'
          | _ => exact hr₂.elim
    | _ => exact hr.elim
end
end K45
set_option Elab.async false
set_option linter.all false
set_option maxRecDepth 100000
set_option maxHeartbeats 1000000
namespace K45
open PySem PySem.Spec PyProof.Rows L2
open Sem (wp)
/-! ### max of ints -/
def cMax (K : PySem.W.Frag) : List V → Hp → VK → Prop := fun vs H Q => ∃ (a : Addr) (ns : List Int), vs = [V.ref a] ∧ (SqL K H a (ns.map V.int) ∨ SqT K H a (ns.map V.int)) ∧ 0 < ns.length ∧ ∀ m, m ∈ ns → (∀ y, y ∈ ns → y ≤ m) → Q (.int m) H
theorem ints_at {ns : List Int} {its : List Value} (rv : Vals (ns.map V.int) its) {i : Nat} {v : Value} (h : its[i]? = some v) : i < ns.length ∧ ∃ t, v = .int (ns.getD i 0) t := by
  have hlen := rv.length
  rw [List.length_map] at hlen
  have hi : i < its.length := (List.getElem?_eq_some_iff.mp h).1
  obtain ⟨u, hu, ru⟩ := rv.get (i := i) (x := .int (ns.getD i 0)) (by rw [List.getElem?_map, List.getElem?_eq_getElem (by omega)]; simp [List.getD, List.getElem?_eq_getElem (show i < ns.length by omega)])
  rw [h] at hu
  cases hu
  exact ⟨by omega, ru⟩
theorem getD_mem' {ns : List Int} {i : Nat} (h : i < ns.length) : ns.getD i 0 ∈ ns := by
  rw [List.getD, List.getElem?_eq_getElem h]; exact List.getElem_mem h
theorem k_max {X : Cx} (hc : X.calm = true) : CallR X (.builtin "max") (cMax X.K) := by
  intro pins s σ H vs us Q I r h
  obtain ⟨a, ns, rfl, hs, hne, q⟩ := h
  rcases hs with hs | hs
  · exact cr_max hc pins s σ H _ us Q I r ⟨a, ns, rfl, hs, hne, q⟩
  · obtain ⟨its, rv, hT, hz⟩ := I.tuple hs
    rw [Vals.ref1 r]
    have hT' : s.heap.IsTuple a its.toArray := hT
    obtain ⟨oT, hoT, hcT⟩ := id hT'
    have hlt : a < s.heap.objs.size := Heap.lt_size hoT
    have hlen : its.length = ns.length := by have := rv.length; rw [List.length_map] at this; exact this.symm
    have hsz : its.toArray.size = ns.length := by rw [List.size_toArray, hlen]
    refine call_max_walk (wpAny_pyIter_tuple hT' ?_)
    have hval : ∀ (i : Nat) (v : Value), its.toArray[i]? = some v → ∃ t, v = .int (ns.getD i 0) t := fun i v hv => (ints_at rv (i := i) (by simpa using hv)).2
    refine ⟨s.heap.objs.size, _, _, _, _, _, _, rfl, Walks.tuple (A := X.A.in1) (I.ok.hd hc) s.heap.objs.size a (Nat.ne_of_lt hlt) its.toArray, ⟨⟨_, Heap.get?_push_size _ rfl, rfl, rfl⟩, hT'.at fun o e => Heap.get?_push_of_some _ e⟩, fun b hb => ?_, by rw [hsz]; exact hne, CmpOf.ints_gt (fun i => ns.getD i 0) hval, fun v h' tk hP hk => ?_⟩
    · show b < (s.heap.push _).objs.size
      rw [Heap.size_push]
      rcases List.mem_cons.mp hb with e | hb
      · rw [e]; exact Nat.lt_succ_self _
      · rw [List.mem_singleton.mp hb]; exact Nat.lt_succ_of_lt hlt
    · rw [hsz] at hP
      obtain ⟨h1, h2⟩ := argBest_gt (fun i => ns.getD i 0) (ns.length - 1)
      obtain ⟨t, ev⟩ := hval _ v hP
      refine ⟨.int _, H, I.kept (t' := tk) fun b o e => ?_, ⟨t, ev⟩, q _ (getD_mem' (by omega)) fun y hy => ?_⟩
      · exact hk b o (fun hm => by
          have := List.mem_singleton.mp hm
          rw [this] at e
          exact Nat.lt_irrefl _ (Heap.lt_size e)) (Heap.get?_push_of_some _ e)
      · obtain ⟨j, hj, ej⟩ := List.getElem_of_mem hy
        have := h2 j (by omega)
        rw [← ej]
        have e2 : ns.getD j 0 = ns[j] := by simp [List.getD, List.getElem?_eq_getElem hj]
        rw [← e2]
        exact this
end K45
set_option Elab.async false
set_option linter.all false
set_option maxRecDepth 100000
set_option maxHeartbeats 1000000
namespace K45
open PySem PySem.Spec PyProof.Rows L2
open Sem (wp)
theorem flat_ints (ys : List Int) : (ys.map V.int).all flatV = true := by
  rw [List.all_map]
  exact List.all_eq_true.mpr fun _ _ => rfl
def rTIndex (K : PySem.W.Frag) : V → List V → Hp → VK → Prop := fun x xs H Q => ∃ p, ∃ ys : List Int, ∃ z j, x = .ref p ∧ xs = [.int z] ∧ SqT K H p (ys.map V.int) ∧ ys[j]? = some z ∧ (∀ m, m < j → ys[m]? ≠ some z) ∧ Q (.int (j : Nat)) H
theorem mt_tindex {X : Cx} : MtR X "tuple.index" (rTIndex X.K) := by
  intro pins s σ H x xs v us Q I rx rs h
  obtain ⟨p, ys, z, j, rfl, rfl, hq, hy, hno, q⟩ := h
  cases rx
  obtain ⟨u, rfl, t, rfl⟩ := vals1 rs
  obtain ⟨its, r, pl, hz⟩ := I.tuple hq
  obtain ⟨⟨cls, dd, dt, sl⟩, ho, hc, n, hd⟩ := pl
  simp only at hc hd
  subst hc
  subst hd
  have hl : its.toArray.size = ys.length := by rw [List.size_toArray, ← r.length, List.length_map]
  have hj : j < its.toArray.size := by rw [hl]; exact (List.getElem?_eq_some_iff.mp hy).1
  have at' : ∀ (m : Nat) (hm : m < its.toArray.size), ∃ y t', ys[m]? = some y ∧ its.toArray[m] = Value.int y t' := fun m hm => by
    have hm2 : its[m]? = some its.toArray[m] := by simp
    obtain ⟨h1, t', h2⟩ := ints_at r hm2
    exact ⟨ys[m], t', List.getElem?_eq_getElem h1, by rw [h2]; simp [List.getD, List.getElem?_eq_getElem h1]⟩
  refine call_meets PySem.F.slot_tuple_index ⟨_, ho, rfl⟩ PySem.F.entry_tuple_index (PySem.F.args_tuple_index_2 _ _) (TI.tuple_indexAt p its.toArray n dd sl (.int z t) (eqU (.int z)) j hj ?_ ?_)
    ⟨ho, fun w hw => mem_eqAt (x := .int z) ⟨t, rfl⟩ rfl r (flat_ints ys) w (by simpa using hw), ⟨.int (j : Nat), H, I.tok _, ⟨_, rfl⟩, q⟩⟩
  · obtain ⟨y, t', h1, h2⟩ := at' j hj
    rw [hy] at h1
    cases h1
    rw [h2]
    show (z == z) = true
    exact beq_self_eq_true z
  · intro m hm hmj
    obtain ⟨y, t', h1, h2⟩ := at' m hm
    rw [h2]
    show (y == z) = false
    exact beq_eq_false_iff_ne.mpr fun e => hno m hmj (e ▸ h1)
/-! ### len(set(a tuple)) -/
def tLenSetT (K : PySem.W.Frag) (ta : TE) : TE := fun σ H Q => ta σ H fun x H1 => ∃ (l : Addr) (ns : List Int), x = .ref l ∧ SqT K H1 l (ns.map V.int) ∧ ns.Nodup ∧ ns.length ≤ 4000 ∧ Q (.int (ns.length : Nat)) H1
theorem pe_lenSetT {X : Cx} {a : Expr} {ta : TE} {p p2 q pos : Pos} (hg : Gl X "len") (hm : X.mg "len" = none) (hg2 : Gl X "set") (hm2 : X.mg "set" = none) (ha : PE X a ta) (hc : X.calm = true := by rfl)
    (na : starEach [a] X.env = (false, eval a X.env) :: starEach [] X.env := by rfl) : PE X (.Call (.Name "len" p) [.Call (.Name "set" p2) [a] [] q] [] pos) (tLenSetT X.K ta) := by
  refine ⟨fun pins s σ H Q I h => ?_⟩
  refine Call_ (ld_blt I hg hm boot_len ?_)
  refine PyProof.Rows.callWith_builtin1 (PyProof.Rows.args_cons ?_ rfl) rfl rfl
  refine Call_ (ld_blt I hg2 hm2 boot_set ?_)
  refine PyProof.Rows.callWith_type1 (PyProof.Rows.args_cons (thn (ha.run pins s σ H _ I h) fun v s1 ⟨x, H1, I1, r1, q1⟩ => PyProof.Rows.args_nil ?_) na) na rfl
  obtain ⟨l, ns, rfl, hq, hnd, hl, q1⟩ := q1
  cases r1
  obtain ⟨its, r, pl, hz⟩ := I1.tuple hq
  have hlen : its.toArray.size = ns.length := by rw [List.size_toArray, ← r.length, List.length_map]
  refine call_set_tupW (tupW_calm (by have := I1.ok.hd hc; simpa using this)) trivial (fun _ _ _ _ => trivial) (fun b hb => by cases hb) (show s1.heap.IsTuple l its.toArray from pl) (by simpa using RZ.intsAre_vals r) (by rw [hlen]; unfold scanBound; omega) fun h' tk hS hk => ?_
  refine PyProof.Rows.args_nil ?_
  rw [hlen, RZ.firstMet_nodup hnd ns.length (Nat.le_refl _), List.take_length] at hS
  obtain ⟨o, es, ep, t, ho, hex, hd, _, _, _, hf, hn⟩ := hS
  have I2 : Inv X pins σ H1 { s1 with heap := h', toks := tk } := I1.kept fun b o e => hk b o (Heap.lt_size e) e
  exact call_len_set ho hex hd hf (by rw [hn] <;> omega) ⟨.int ns.length, H1, I2.tok _, ⟨_, by rw [hn]⟩, q1⟩
end K45
set_option Elab.async false
set_option linter.all false
set_option maxRecDepth 100000
set_option maxHeartbeats 200000
namespace K45
open PySem PySem.Spec PyProof.Rows L2
abbrev s__law_put : Stmt := topS 66
theorem sc__law_put : FnScope ["_law_g", "_law_x", "_law_y", "_law_entry", "_law_rows", "_law_row"] ["_law_g", "_law_x", "_law_y", "_law_entry"] (defScope s__law_put) := ⟨rfl, rfl, rfl, by decide +kernel, rfl, by decide +kernel, by decide +kernel⟩
def t__law_put (K : PySem.W.Frag) : TS := (tSeq (tAsg (tLc (iTup K (tVar 0)) (gName 5) tYes (tCB (cList K) (tCons (tVar 5) tNil)) [5]) (gName 4))
    (tSeq (tAsg (tVar 3) (gSub (tOp (rIx K) (tVar 4) (tVar 1)) (tVar 2) rSetL))
    (tRet (tCB (cTup K) (tCons (tLc (iList K (tVar 4)) (gName 5) tYes (tCB (cTup K) (tCons (tVar 5) tNil)) [5]) tNil)))))
theorem d__law_put {P : Program} {w : World} {K : PySem.W.Frag} {mg : Str → Option Value} {base : Heap} (B : Bif mg)  {f : Addr} {cdv : Value} {A : Around} {outer : List Env} {s : Shared} {H : Hp} {E : XK} (hr : Room 0 (A.deeper (envOfC "_law_put" (defScope s__law_put) s.heap.objs.size f cdv))) :
    PSs (cxOf CX0 P w K mg base ["_law_g", "_law_x", "_law_y", "_law_entry", "_law_rows", "_law_row"] "_law_put" (defScope s__law_put) f cdv A outer s H E).nox (defBody s__law_put) (t__law_put K ) := by
  have nd := sc__law_put.nd
  exact (pss_cons (ps_setLc (i := 4) (own := [("_law_row", 5)]) rfl nd rfl rfl (sw_true rfl rfl rfl (by decide +kernel)) (pi_tup (pv 0)) (blkOk_by (own := [("_law_row", 5)]) (by kernel_rfl)) (fun _ _ _ _ _ => (pg_name (i := 5) nd rfl (Or.inl rfl))) (fun _ _ _ _ _ => pts_nil) (fun _ _ _ _ _ => (pe_callTy k_list (by rfl) B.list_ (by decide +kernel) (pa_cons (pv 5) pa_nil))))
      (pss_cons (ps_asg (pv 3) (pg_sub (pe_ix ix_seq (pv 4) (pv 1) (fun _ _ => rfl)) (pv 2) set_list))
      (pss_one (ps_ret (pe_callTy k_tuple (by rfl) B.tuple_ (by decide +kernel) (pa_cons (pe_lc (own := [("_law_row", 5)]) rfl nd (pi_list (pv 4)) (blkOk_by (own := [("_law_row", 5)]) (by kernel_rfl)) (fun _ _ _ _ _ => (pg_name (i := 5) nd rfl (Or.inl rfl))) (fun _ _ _ _ _ => pts_nil) (fun _ _ _ _ _ => (pe_callTy k_tuple (by rfl) B.tuple_ (by decide +kernel) (pa_cons (pv 5) pa_nil)))) pa_nil))))))

section
variable {P : Program} {w : World} {K : PySem.W.Frag} {mg : Str → Option Value} {base : Heap}
theorem MM.congr {H : Hp} {a : Addr} {n m : Nat} {ad : Nat → Addr} {F F' : Nat → Nat → V} (h : MM H a n m ad F) (e : ∀ i j, i < n → j < m → F i j = F' i j) : MM H a n m ad F' :=
  ⟨h.1, fun i hi => by rw [← tab_congr (f := F i) fun j hj => e i j hi hj]; exact h.2.1 i hi, h.2.2⟩
def spPut (K : PySem.W.Frag) : Sp := fun vs H Q _ => ∃ (n : Nat) (a : Addr) (g : Gr) (x y : Nat) (e : Option Int), vs = [.ref a, .int (x : Int), .int (y : Int), oV e] ∧ TR K H a n n (oI g) ∧ n ≤ 1000 ∧ x < n ∧ y < n ∧ Ret (IsTR K n n (oI (put g x y e))) H Q
theorem cal__law_put (T : Txt K mg) : Cal P w K mg base 1 "_law_put" ["_law_g", "_law_x", "_law_y", "_law_entry"] (spPut K) := by
  refine T._law_put.cal sc__law_put (fun vs H Q E h => ?_) (fun f cdv A outer s H vs Q E hr h => ⟨_, d__law_put T.B hr, ?_⟩)
  · obtain ⟨n, a, g, x, y, e, rfl, _⟩ := h; rfl
  obtain ⟨n, a, g, x, y, e, rfl, ⟨tad, h1, h2⟩, hn, hx, hy, q⟩ := h
  unfold t__law_put
  refine q_asgA (al_lcN (fun i => .lst (tab n (oI g i))) (src_T (n := n) (f := fun i => .ref (tad i)) (va_var rfl) h1) (fun _ => rfl) (by omega) fun i H1 hi S1 => Al.imp (al_listT (va_var (v := .ref (tad i)) rfl) (S1.t (h2 i hi))) fun v H2 _ ⟨p, e1, e2, e3⟩ => ⟨p, e1, e2, e3⟩) fun v H1 S1 pv => ?_
  obtain ⟨R, ad, ev, nR, nad, hM⟩ := news_mm pv
  subst ev
  refine q_setMM (v := oV e) (va_var rfl) (va_var rfl) (va_var rfl) (va_var rfl) hM hx hy fun H2 hne M2 => ?_
  have S2 : Same H H2 := fun b u eb => by
    rw [hne b (fun q hq z => by rw [z, nad q hq] at eb; cases eb)]
    exact S1 _ _ eb
  have hF : MM H2 R n n ad (oI (put g x y e)) := M2.congr fun i j _ _ => by
    by_cases c : i = x
    · subst c
      rw [up_same]
      by_cases d : j = y
      · subst d; rw [up_same]; show oV e = oV _; rw [put_at]
      · rw [up_ne d]; show oV _ = oV _; rw [put_ne (fun z => d z.2)]
    · rw [up_ne c]; show oV _ = oV _; rw [put_ne (fun z => c z.1)]
  exact st_retA (al_tups (n := n) (j := 5) (ad := ad) hn (by show 5 < 6; omega) (va_var rfl) hF) fun v H3 S3 p => q v H3 (S2.trans S3) p
/-! ### the law's walks -/
theorem vr_xA {H : Hp} {p : Addr} {n : Nat} {f : Nat → V} {i : Nat} (h : SqL K H p (tab n f) ∨ SqT K H p (tab n f)) (hi : i < n) : Vr (rIx K) (.ref p) (.int (i : Int)) H (f i) := by
  rcases h with h | h
  · exact vr_xLl h hi
  · exact vr_xTt h hi
theorem SqA.mono {H H' : Hp} {p : Addr} {xs : List V} (h : SqL K H p xs ∨ SqT K H p xs) (S : Same H H') : SqL K H' p xs ∨ SqT K H' p xs := h.imp S.l S.t
def shun (z : Option Nat) (u : Gr) : Gr := match z with
  | none => u
  | some z => off z u
def shunV : Option Nat → List V
  | none => []
  | some z => [.int (z : Int)]
theorem shun_self {z : Option Nat} {u : Gr} (h : ∀ x, u x x = none) (x : Nat) : shun z u x x = none := by
  cases z with
  | none => exact h x
  | some z => show off z u x x = none; unfold off; split; rfl; exact h x
def cur (m : Nat) (u : Gr) (X Y : Nat) : Ar := fun x y => if x < X ∨ (x = X ∧ y < Y) then mn m (fw u m) x y else fw u m x y
def spWalks2 (K : PySem.W.Frag) : Sp := fun vs H Q _ => ∃ (n : Nat) (a b wo : Addr) (g : Gr) (t : Nat → Int) (z : Option Nat), vs = [.ref a, .ref b, .ref wo] ∧ TR K H a n n (oI g) ∧ (SqL K H b (tabI n t) ∨ SqT K H b (tabI n t)) ∧ SqT K H wo (shunV z) ∧ n ≤ 1000 ∧ (∃ p, Feas n (gn g t) p) ∧
  Ret (IsLL K n n (oI (fw (shun z (gn g t)) n))) H Q
end
end K45
set_option Elab.async false
set_option linter.all false
set_option maxRecDepth 100000
set_option maxHeartbeats 200000
namespace K45
open PySem PySem.Spec PyProof.Rows L2
abbrev s__law_walks : Stmt := topS 61
theorem sc__law_walks : FnScope ["_law_g", "_law_t", "_law_without", "_law_a", "_law_b", "_law_x", "_law_row", "_law_y", "_law_m", "_law_both", "_law_one"] ["_law_g", "_law_t", "_law_without"] (defScope s__law_walks) := ⟨rfl, rfl, rfl, by decide +kernel, rfl, by decide +kernel, by decide +kernel⟩
def t__law_walks (K : PySem.W.Frag) : TS := (tSeq (tAsg (tLst tNil) (gName 3))
    (tSeq (tAsg (tCB (cLen K) (tCons (tVar 0) tNil)) (gName 4))
    (tSeq (tFor (iRng1 (tCons (tVar 4) tNil)) (gName 5) (tSeq (tAsg (tLc (iTup K (tOp (rIx K) (tVar 0) (tVar 5))) (gName 10) tYes (tIf (tTest (tOp kIsN (tVar 10) (tC .non))) (tC .non) (tOp rAdd (tOp rMul (tC (.int 64)) (tOp rSub (tOp (rIx K) (tVar 1) (tVar 5)) (tVar 10))) (tC (.int 1)))) [10]) (gName 6))
    (tSeq (tIfS (tTest (tOp (rIn K false) (tVar 5) (tVar 2))) (tAsg (tLc (iRng1 (tCons (tVar 4) tNil)) (gName 7) tYes (tC .non) [7]) (gName 6)) tNext)
    (tSeq (tAsg (tC (.int 0)) (gSub (tVar 6) (tVar 5) rSetL))
    (tDrop (tBM K "list" rAppend (tVar 3) (tCons (tVar 6) tNil)))))))
    (tSeq (tFor (iRng1 (tCons (tVar 4) tNil)) (gName 8) (tFor (iRng1 (tCons (tVar 4) tNil)) (gName 5) (tIfS (tTest (tOp kNotN (tOp (rIx K) (tOp (rIx K) (tVar 3) (tVar 5)) (tVar 8)) (tC .non))) (tFor (iRng1 (tCons (tVar 4) tNil)) (gName 7) (tIfS (tTest (tOp kNotN (tOp (rIx K) (tOp (rIx K) (tVar 3) (tVar 8)) (tVar 7)) (tC .non))) (tSeq (tAsg (tOp rAdd (tOp (rIx K) (tOp (rIx K) (tVar 3) (tVar 5)) (tVar 8)) (tOp (rIx K) (tOp (rIx K) (tVar 3) (tVar 8)) (tVar 7))) (gName 9))
    (tIfS (tOr (tTest (tOp kIsN (tOp (rIx K) (tOp (rIx K) (tVar 3) (tVar 5)) (tVar 7)) (tC .non))) (tTest (tOp rLt (tVar 9) (tOp (rIx K) (tOp (rIx K) (tVar 3) (tVar 5)) (tVar 7))))) (tAsg (tVar 9) (gSub (tOp (rIx K) (tVar 3) (tVar 5)) (tVar 7) rSetL)) tNext)) tNext)) tNext)))
    (tRet (tVar 3))))))
theorem d__law_walks {P : Program} {w : World} {K : PySem.W.Frag} {mg : Str → Option Value} {base : Heap} (B : Bif mg)  {f : Addr} {cdv : Value} {A : Around} {outer : List Env} {s : Shared} {H : Hp} {E : XK} (hr : Room 0 (A.deeper (envOfC "_law_walks" (defScope s__law_walks) s.heap.objs.size f cdv))) :
    PSs (cxOf CX0 P w K mg base ["_law_g", "_law_t", "_law_without", "_law_a", "_law_b", "_law_x", "_law_row", "_law_y", "_law_m", "_law_both", "_law_one"] "_law_walks" (defScope s__law_walks) f cdv A outer s H E).nox (defBody s__law_walks) (t__law_walks K ) := by
  have nd := sc__law_walks.nd
  exact (pss_cons (ps_set (i := 3) nd rfl (Or.inl rfl) (pe_lst pa_nil))
      (pss_cons (ps_set (i := 4) nd rfl (Or.inl rfl) (pe_callB k_len (by rfl) B.len_ (by decide +kernel) (pa_cons (pv 0) pa_nil)))
      (pss_cons (ps_for PassesOwn.never rfl (pi_range1 (by rfl) B.range_ (pa_cons (pv 4) pa_nil)) (pg_name (i := 5) nd rfl (Or.inr rfl)) (pss_cons (ps_setLc (i := 6) (own := [("_law_one", 10)]) rfl nd rfl rfl (sw_true rfl rfl rfl (by decide +kernel)) (pi_tup (pe_ix ix_seq (pv 0) (pv 5) (fun _ _ => rfl))) (blkOk_by (own := [("_law_one", 10)]) (by kernel_rfl)) (fun _ _ _ _ _ => (pg_name (i := 10) nd rfl (Or.inl rfl))) (fun _ _ _ _ _ => pts_nil) (fun _ _ _ _ _ => (pe_ifExp (pt_cmpR k_isN (pv 10) pe_non (nomark _)) pe_non (pe_op k_add (pe_op k_mul pe_int (pe_op k_sub (pe_ix ix_seq (pv 1) (pv 5) (fun _ _ => rfl)) (pv 10))) pe_int))))
      (pss_cons (ps_if (pt_cmpR op_in_seq (pv 5) (pv 2) (by rfl)) (pss_one (ps_setLc (i := 6) (own := [("_law_y", 7)]) rfl nd rfl rfl (sw_true rfl rfl rfl (by decide +kernel)) (pi_range1 (by rfl) B.range_ (pa_cons (pv 4) pa_nil)) (blkOk_by (own := [("_law_y", 7)]) (by kernel_rfl)) (fun _ _ _ _ _ => (pg_name (i := 7) nd rfl (Or.inl rfl))) (fun _ _ _ _ _ => pts_nil) (fun _ _ _ _ _ => pe_non))) pss_nil)
      (pss_cons (ps_asg pe_int (pg_sub (pv 6) (pv 5) set_list))
      (pss_one (ps_expr (pe_bm PySem.F.plainAttrs_list PySem.F.slot_list_append PySem.F.type_list_append mt_append (pv 3) (pa_cons (pv 6) pa_nil))))))))
      (pss_cons (ps_for PassesOwn.never rfl (pi_range1 (by rfl) B.range_ (pa_cons (pv 4) pa_nil)) (pg_name (i := 8) nd rfl (Or.inl rfl)) (pss_one (ps_for PassesOwn.never rfl (pi_range1 (by rfl) B.range_ (pa_cons (pv 4) pa_nil)) (pg_name (i := 5) nd rfl (Or.inr rfl)) (pss_one (ps_if (pt_cmpR k_notN (pe_ix ix_seq (pe_ix ix_seq (pv 3) (pv 5) (fun _ _ => rfl)) (pv 8) (fun _ _ => rfl)) pe_non (nomark _)) (pss_one (ps_for PassesOwn.never rfl (pi_range1 (by rfl) B.range_ (pa_cons (pv 4) pa_nil)) (pg_name (i := 7) nd rfl (Or.inl rfl)) (pss_one (ps_if (pt_cmpR k_notN (pe_ix ix_seq (pe_ix ix_seq (pv 3) (pv 8) (fun _ _ => rfl)) (pv 7) (fun _ _ => rfl)) pe_non (nomark _)) (pss_cons (ps_set (i := 9) nd rfl (Or.inl rfl) (pe_op k_add (pe_ix ix_seq (pe_ix ix_seq (pv 3) (pv 5) (fun _ _ => rfl)) (pv 8) (fun _ _ => rfl)) (pe_ix ix_seq (pe_ix ix_seq (pv 3) (pv 8) (fun _ _ => rfl)) (pv 7) (fun _ _ => rfl))))
      (pss_one (ps_if (PW.pt (pw_or (pt_cmpR k_isN (pe_ix ix_seq (pe_ix ix_seq (pv 3) (pv 5) (fun _ _ => rfl)) (pv 7) (fun _ _ => rfl)) pe_non (nomark _)) (pw_or1 (pt_cmpR k_lt (pv 9) (pe_ix ix_seq (pe_ix ix_seq (pv 3) (pv 5) (fun _ _ => rfl)) (pv 7) (fun _ _ => rfl)) (nomark _))))) (pss_one (ps_asg (pv 9) (pg_sub (pe_ix ix_seq (pv 3) (pv 5) (fun _ _ => rfl)) (pv 7) set_list))) pss_nil))) pss_nil)))) pss_nil)))))
      (pss_one (ps_ret (pv 3)))))))

section
variable {P : Program} {w : World} {K : PySem.W.Frag} {mg : Str → Option Value} {base : Heap}
theorem cur_same {n : Nat} {u : Gr} {p : Nat → Int} (hw : ∀ x, u x x = none) (f : Feas n u p) {m : Nat} (hm : m < n) {X Y : Nat} : (∀ x, x < n → cur m u X Y x m = fw u m x m) ∧ ∀ y, y < n → cur m u X Y m y = fw u m m y := by
  obtain ⟨h1, h2⟩ := mn_mid hw f hm
  refine ⟨fun x hx => ?_, fun y hy => ?_⟩
  · unfold cur; split
    · exact h1 x hx
    · rfl
  · unfold cur; split
    · exact h2 y hy
    · rfl
theorem cur_at {u : Gr} {m X Y : Nat} : cur m u X Y X Y = fw u m X Y := if_neg (by omega)
theorem cur_next {u : Gr} {m X Y : Nat} (x y : Nat) : cur m u X (Y + 1) x y = if x = X ∧ y = Y then mn m (fw u m) X Y else cur m u X Y x y := by
  unfold cur
  by_cases c : x = X ∧ y = Y
  · obtain ⟨rfl, rfl⟩ := c
    rw [if_pos (by omega), if_pos ⟨rfl, rfl⟩]
  · rw [if_neg c]
    by_cases d : x < X ∨ (x = X ∧ y < Y)
    · rw [if_pos d, if_pos (by omega)]
    · rw [if_neg d, if_neg (by omega)]
theorem vr_inT {H : Hp} {x : V} {p : Addr} {xs : List V} {neg b : Bool} (h : SqT K H p xs) (fx : flatV x = true) (fs : xs.all flatV = true) (e : (if neg = true then !inV x xs else inV x xs) = b) : Vr (rIn K neg) x (.ref p) H (.bl b) := fun Q q => ⟨p, xs, rfl, .inr h, fx, fs, by rw [e]; exact q⟩
theorem cal__law_walks (T : Txt K mg) : Cal P w K mg base 1 "_law_walks" ["_law_g", "_law_t", "_law_without"] (spWalks2 K) := by
  refine T._law_walks.cal sc__law_walks (fun vs H Q E h => ?_) (fun f cdv A outer s H vs Q E hr h => ⟨_, d__law_walks T.B hr, ?_⟩)
  · obtain ⟨n, a, b, wo, g, t, z, rfl, _⟩ := h; rfl
  obtain ⟨n, a, b, wo, g, t, z, rfl, hT, ht, hwo, hn, ⟨p, hp⟩, q⟩ := h
  obtain ⟨tad, hT1, hT2⟩ := id hT
  have hws : ∀ x, shun z (gn g t) x x = none := shun_self (gn_self g t)
  have hf : Feas n (shun z (gn g t)) p := fun u v hu hv g' e => by
    cases z with
    | none => exact hp u v hu hv g' e
    | some z => exact hp u v hu hv g' (off_some e).2
  unfold t__law_walks
  refine q_asgA (al_lst (vs := []) vs_nil) fun v H1 S1 ⟨AA, ev, nA, hA⟩ => ?_
  subst ev
  refine q_asg (v := .int (n : Int)) (va_cb (vs_cons (va_var rfl) vs_nil) (vc_lenTT (S1.tt hT))) ?_
  -- the rows of the start
  refine q_forR (n := n) (vs_cons (va_var rfl) vs_nil) (by omega) (fun k σ' H' => ∃ v5 v6 v7 ad, σ' = [some (.ref a), some (.ref b), some (.ref wo), some (.ref AA), some (.int (n : Int)), v5, v6, v7, none, none, none] ∧ Same H H' ∧ H' AA = some (.lst (tab k fun i => .ref (ad i))) ∧
      (∀ i, i < k → H' (ad i) = some (.lst (tab n (oI (fw0 (shun z (gn g t))) i))) ∧ H (ad i) = none ∧ ad i ≠ AA) ∧ ∀ i j, i < k → j < k → ad i = ad j → i = j)
    ⟨none, none, none, fun _ => 0, rfl, S1, hA, fun i hi => absurd hi (Nat.not_lt_zero i), fun i j hi => absurd hi (Nat.not_lt_zero i)⟩ (fun k σ' H' hk ⟨v5, v6, v7, ad, es, S, e1, e2, e3⟩ => ?_) (fun σ' H' ⟨v5, v6, v7, ad, es, S, e1, e2, e3⟩ => ?_)
  · subst es
    refine q_asgA (P := IsNewL H' (tab n fun y => oV ((g k y).map fun e => 64 * (t k - e) + 1))) (al_lcV (fun y => oV ((g k y).map fun e => 64 * (t k - e) + 1)) (src_T (n := n) (f := fun y => oV (g k y)) (va_op (va_var rfl) (va_var rfl) (vr_xTt (f := fun i => .ref (tad i)) (S.t hT1) hk)) (S.t (hT2 k hk))) (fun _ => rfl) (by omega) fun y H2 hy S2 => al_va ?_) fun v H2 S2 ⟨r1, ev, nr1, hr1⟩ => ?_
    · cases c : g k y with
      | none => exact va_ifT (vt_test (va_op (va_var (v := .non) rfl) va_c vr_isNn)) va_c
      | some e => exact va_ifF (vt_test (va_op (va_var (v := .int e) rfl) va_c vr_isNi)) (va_op (va_op va_c (va_op (va_op (va_var rfl) (va_var rfl) (vr_xA (SqA.mono ht (S.trans S2)) hk)) (va_var (v := .int e) rfl) vr_sub) (vr_mul (.inl ⟨by omega, by omega⟩))) va_c vr_add)
    subst ev
    -- the row shunned, or not
    have fin : ∀ (r : Addr) (H3 : Hp) (v7' : Option V) (fr : Nat → Option Int), Same H' H3 → H' r = none → H3 r = some (.lst (tab n fun y => oV (fr y))) → (∀ y, y < n → y ≠ k → fr y = (shun z (gn g t) k y).map fun v => 1 - 64 * v) →
        ∀ {D : Ends}, (∀ σ'' H'', (∃ v5 v6 v7, ∃ ad : Nat → Addr, σ'' = [some (.ref a), some (.ref b), some (.ref wo), some (.ref AA), some (.int (n : Int)), v5, v6, v7, none, none, none] ∧ Same H H'' ∧ H'' AA = some (.lst (tab (k + 1) fun i => .ref (ad i))) ∧
          (∀ i, i < k + 1 → H'' (ad i) = some (.lst (tab n (oI (fw0 (shun z (gn g t))) i))) ∧ H (ad i) = none ∧ ad i ≠ AA) ∧ ∀ i j, i < k + 1 → j < k + 1 → ad i = ad j → i = j) → D.nx σ'' H'') →
        tSeq (tAsg (tC (.int 0)) (gSub (tVar 6) (tVar 5) rSetL)) (tDrop (tBM K "list" rAppend (tVar 3) (tCons (tVar 6) tNil))) D [some (.ref a), some (.ref b), some (.ref wo), some (.ref AA), some (.int (n : Int)), some (.int (k : Int)), some (.ref r), v7', none, none, none] H3 := fun r H3 v7' fr S3 nr hr hfr {D} hD => by
      have nrA : r ≠ AA := fun q => by rw [q, e1] at nr; cases nr
      refine q_setL (j := k) (n := n) va_c (va_var rfl) (va_var rfl) hr hk ?_
      refine st_app (va_var rfl) (va_var rfl) (show upd H3 r _ AA = _ by rw [upd_ne (Ne.symm nrA)]; exact S3 _ _ e1) (by rw [tab_len]; omega) (hD _ _ ⟨_, _, _, up ad k r, rfl, same_mut (same_mut (S.trans S3) (S.none nr)) nA, ?_, fun i hi => ?_, fun i j hi hj e => ?_⟩)
      · rw [upd_same, tab_succ, up_same]
        exact congrArg (fun l => some (HO.lst (l ++ [V.ref r]))) (tab_congr fun i hi => by rw [up_ne (Nat.ne_of_lt hi)])
      · by_cases c : i = k
        · subst c
          rw [up_same]
          refine ⟨?_, S.none nr, nrA⟩
          rw [upd_ne nrA, upd_same]
          refine congrArg (fun l => some (HO.lst l)) (tab_congr fun y hy => ?_)
          by_cases d : y = i
          · subst d; rw [up_same]; show V.int 0 = oV (fw0 _ y y); unfold fw0; rw [if_pos rfl]; rfl
          · rw [up_ne d]; show oV (fr y) = oV (fw0 _ i y); unfold fw0; rw [if_neg d, hfr y hy d]
        · have hik : i < k := by omega
          obtain ⟨a1, a2, a3⟩ := e2 i hik
          rw [up_ne c]
          refine ⟨?_, a2, a3⟩
          rw [upd_ne a3, upd_ne (fun q => by rw [q, nr] at a1; cases a1)]
          exact S3 _ _ a1
      · have ner : ∀ i, i < k → ad i ≠ r := fun i hi q => by have := (e2 i hi).1; rw [q, nr] at this; cases this
        by_cases c : i = k
        · by_cases d : j = k
          · omega
          · rw [c, up_same, up_ne d] at e; exact absurd e.symm (ner j (by omega))
        · by_cases d : j = k
          · rw [d, up_same, up_ne c] at e; exact absurd e (ner i (by omega))
          · rw [up_ne c, up_ne d] at e; exact e3 i j (by omega) (by omega) e
    have hin : Vt (tTest (tOp (rIn K false) (tVar 5) (tVar 2))) [some (.ref a), some (.ref b), some (.ref wo), some (.ref AA), some (.int (n : Int)), some (.int (k : Int)), some (.ref r1), v7, none, none, none] H2 (decide (z = some k)) := vt_test (va_op (va_var (v := .int (k : Int)) rfl) (va_var (v := .ref wo) rfl) (vr_inT ((S.trans S2).t hwo) rfl (by cases z <;> rfl) (by
      cases z with
      | none => rfl
      | some z =>
        show ((z : Int) == (k : Int) || false) = _
        rw [Bool.or_false, Bool.eq_iff_iff, beq_iff_eq, decide_eq_true_iff]
        exact ⟨fun h => by congr 1; omega, fun h => by cases h; rfl⟩)))
    refine q_ifn hin (fun hz => ?_) (fun hz => ?_)
    · have hz := of_decide_eq_true hz
      refine st_asgA (P := IsNewL H2 (tab n fun _ => .non)) (al_lcV (fun _ => .non) (src_R (n := n) (vs_cons (va_var rfl) vs_nil) (by omega)) (fun _ => rfl) (by omega) fun y H3 hy S3 => al_va va_c) fun v H3 S3 ⟨r2, ev, nr2, hr2⟩ => ?_
      subst ev
      refine fin r2 H3 v7 (fun _ => none) (S2.trans S3) (S2.none nr2) hr2 (fun y _ _ => ?_) fun _ _ h => h
      rw [hz]
      show none = (off k (gn g t) k y).map _
      unfold off
      rw [if_pos rfl]; rfl
    · have hz := of_decide_eq_false hz
      refine fin r1 H2 v7 (fun y => (g k y).map fun e => 64 * (t k - e) + 1) S2 nr1 hr1 (fun y _ hy => ?_) fun _ _ h => h
      have e : shun z (gn g t) k y = gn g t k y := by
        cases z with
        | none => rfl
        | some z => exact off_ne (fun q => hz (by rw [q]))
      rw [e, gn_ne (Ne.symm hy), Option.map_map]
      cases g k y with
      | none => rfl
      | some e => show some (64 * (t k - e) + 1) = some (1 - 64 * (e - t k)); congr 1; omega
  · subst es
    have hM0 : MM H' AA n n ad (oI (fw (shun z (gn g t)) 0)) := ⟨e1, fun i hi => (e2 i hi).1, fun i hi => (e2 i hi).2.2, e3⟩
    have nad : ∀ i, i < n → H (ad i) = none := fun i hi => (e2 i hi).2.1
    generalize hU : shun z (gn g t) = U at hws hf hM0 q
    refine q_forR (n := n) (vs_cons (va_var rfl) vs_nil) (by omega) (fun m σ' H' => ∃ v5 v6 v7 v8 v9, σ' = [some (.ref a), some (.ref b), some (.ref wo), some (.ref AA), some (.int (n : Int)), v5, v6, v7, v8, v9, none] ∧ Same H H' ∧ MM H' AA n n ad (oI (fw U m))) ⟨v5, v6, v7, none, none, rfl, S, hM0⟩ (fun m σ' H' hm ⟨v5, v6, v7, v8, v9, es, S, M⟩ => ?_) (fun σ' H' ⟨v5, v6, v7, v8, v9, es, S, M⟩ => ?_)
    · subst es
      refine st_forR (n := n) (vs_cons (va_var rfl) vs_nil) (by omega) (fun X σ' H' => ∃ v5 v7 v9, σ' = [some (.ref a), some (.ref b), some (.ref wo), some (.ref AA), some (.int (n : Int)), v5, v6, v7, some (.int (m : Int)), v9, none] ∧ Same H H' ∧ MM H' AA n n ad (oI (cur m U X 0))) ⟨v5, v7, v9, rfl, S, M.congr fun i j _ _ => by show oV _ = oV _; unfold cur; rw [if_neg (by omega)]⟩ (fun X σ' H' hX ⟨v5, v7, v9, es, S, M⟩ => ?_) (fun σ' H' ⟨v5, v7, v9, es, S, M⟩ => ⟨v5, v6, v7, _, v9, es, S, M.congr fun i j hi hj => by show oV _ = oV (mn m (fw U m) i j); unfold cur; rw [if_pos (.inl hi)]⟩)
      subst es
      obtain ⟨c1, c2⟩ := cur_same hws hf hm (X := X) (Y := 0)
      have next : MM H' AA n n ad (oI (cur m U X n)) → MM H' AA n n ad (oI (cur m U (X + 1) 0)) := fun M => M.congr fun i j hi hj => by
        show oV _ = oV _
        unfold cur
        by_cases d : i < X ∨ (i = X ∧ j < n)
        · rw [if_pos d, if_pos (by omega)]
        · rw [if_neg d, if_neg (by omega)]
      cases cx : fw U m X m with
      | none =>
        refine st_ifF (vt_test (va_op (va_is (va_LL (K := K) M.ll (va_var rfl) (va_var rfl) (va_var rfl) hX hm) (by show oV (cur m U X 0 X m) = .non; rw [c1 X hX, cx]; rfl)) va_c vr_notNn)) ⟨_, _, _, rfl, S, M.congr fun i j hi hj => ?_⟩
        show oV _ = oV _
        unfold cur
        by_cases d : i < X ∨ (i = X ∧ j < 0)
        · rw [if_pos d, if_pos (by omega)]
        · rw [if_neg d]
          by_cases e : i < X + 1 ∨ (i = X + 1 ∧ j < 0)
          · rw [if_pos e]
            have : i = X := by omega
            subst this
            rw [mn_none (.inl cx)]
          · rw [if_neg e]
      | some cv =>
        refine st_ifT (vt_test (va_op (va_is (va_LL (K := K) M.ll (va_var rfl) (va_var rfl) (va_var rfl) hX hm) (by show oV (cur m U X 0 X m) = .int cv; rw [c1 X hX, cx]; rfl)) va_c vr_notNi)) ?_
        refine st_forR (n := n) (vs_cons (va_var rfl) vs_nil) (by omega) (fun Y σ' H' => ∃ v7 v9, σ' = [some (.ref a), some (.ref b), some (.ref wo), some (.ref AA), some (.int (n : Int)), some (.int (X : Int)), v6, v7, some (.int (m : Int)), v9, none] ∧ Same H H' ∧ MM H' AA n n ad (oI (cur m U X Y))) ⟨v7, v9, rfl, S, M⟩ (fun Y σ' H' hY ⟨v7, v9, es, S, M⟩ => ?_) (fun σ' H' ⟨v7, v9, es, S, M⟩ => ⟨_, v7, v9, es, S, M.congr fun i j hi hj => by
          show oV _ = oV _
          unfold cur
          by_cases d : i < X ∨ (i = X ∧ j < n)
          · rw [if_pos d, if_pos (by omega)]
          · rw [if_neg d, if_neg (by omega)]⟩)
        subst es
        obtain ⟨c1, c2⟩ := cur_same hws hf hm (X := X) (Y := Y)
        have vXm : ∀ {σ : L2.St}, σ[3]? = some (some (V.ref AA)) → σ[5]? = some (some (.int (X : Int))) → σ[8]? = some (some (.int (m : Int))) → Va (tOp (rIx K) (tOp (rIx K) (tVar 3) (tVar 5)) (tVar 8)) σ H' (.int cv) := fun h3 h5 h8 =>
          va_is (va_LL (K := K) M.ll (va_var h3) (va_var h5) (va_var h8) hX hm) (by show oV (cur m U X Y X m) = .int cv; rw [c1 X hX, cx]; rfl)
        cases cy : fw U m m Y with
        | none =>
          refine st_ifF (vt_test (va_op (va_is (va_LL (K := K) M.ll (va_var rfl) (va_var rfl) (va_var rfl) hm hY) (by show oV (cur m U X Y m Y) = .non; rw [c2 Y hY, cy]; rfl)) va_c vr_notNn)) ⟨_, _, rfl, S, M.congr fun i j hi hj => ?_⟩
          show oV _ = oV _
          rw [cur_next]
          by_cases d : i = X ∧ j = Y
          · obtain ⟨rfl, rfl⟩ := d; rw [if_pos ⟨rfl, rfl⟩, mn_none (.inr cy), cur_at]
          · rw [if_neg d]
        | some dv =>
          have vmY : ∀ {σ : L2.St}, σ[3]? = some (some (V.ref AA)) → σ[7]? = some (some (.int (Y : Int))) → σ[8]? = some (some (.int (m : Int))) → Va (tOp (rIx K) (tOp (rIx K) (tVar 3) (tVar 8)) (tVar 7)) σ H' (.int dv) := fun h3 h7 h8 =>
            va_is (va_LL (K := K) M.ll (va_var h3) (va_var h8) (va_var h7) hm hY) (by show oV (cur m U X Y m Y) = .int dv; rw [c2 Y hY, cy]; rfl)
          refine st_ifT (vt_test (va_op (vmY rfl rfl rfl) va_c vr_notNi)) ?_
          refine q_asg (va_op (vXm rfl rfl rfl) (vmY rfl rfl rfl) vr_add) ?_
          have vXY : ∀ {σ : L2.St} {o : Option Int}, fw U m X Y = o → σ[3]? = some (some (V.ref AA)) → σ[5]? = some (some (.int (X : Int))) → σ[7]? = some (some (.int (Y : Int))) → Va (tOp (rIx K) (tOp (rIx K) (tVar 3) (tVar 5)) (tVar 7)) σ H' (oV o) := fun ho h3 h5 h7 =>
            va_is (va_LL (K := K) M.ll (va_var h3) (va_var h5) (va_var h7) hX hY) (by show oV (cur m U X Y X Y) = _; rw [cur_at, ho])
          have put : ∀ {D : Ends}, (∀ σ'' H'', (∃ v7 v9, σ'' = [some (.ref a), some (.ref b), some (.ref wo), some (.ref AA), some (.int (n : Int)), some (.int (X : Int)), v6, v7, some (.int (m : Int)), v9, none] ∧ Same H H'' ∧ MM H'' AA n n ad (oI (cur m U X (Y + 1)))) → D.nx σ'' H'') → mn m (fw U m) X Y = some (cv + dv) →
              tAsg (tVar 9) (gSub (tOp (rIx K) (tVar 3) (tVar 5)) (tVar 7) rSetL) D [some (.ref a), some (.ref b), some (.ref wo), some (.ref AA), some (.int (n : Int)), some (.int (X : Int)), v6, some (.int (Y : Int)), some (.int (m : Int)), some (.int (cv + dv)), none] H' := fun {D} hD hmn => by
            refine st_setMM (v := .int (cv + dv)) (va_var rfl) (va_var rfl) (va_var rfl) (va_var rfl) M hX hY fun H2 hne M2 => hD _ _ ⟨_, _, rfl, fun b u eb => ?_, M2.congr fun i j hi hj => ?_⟩
            · rw [hne b (fun q hq z => by rw [z, nad q hq] at eb; cases eb)]; exact S _ _ eb
            · show _ = oV (cur m U X (Y + 1) i j)
              rw [cur_next]
              by_cases d : i = X
              · subst d
                rw [up_same]
                by_cases d2 : j = Y
                · subst d2; rw [up_same, if_pos ⟨rfl, rfl⟩, hmn]; rfl
                · rw [up_ne d2, if_neg (fun z => d2 z.2)]
              · rw [up_ne d, if_neg (fun z => d z.1)]
          cases cxy : fw U m X Y with
          | none =>
            refine st_ifT (vt_or1 (vt_test (va_op (vXY cxy rfl rfl rfl) va_c vr_isNn))) (put (fun _ _ h => h) (mn_new cx cy fun b h => by rw [cxy] at h; cases h))
          | some bv =>
            refine st_if (b := decide (cv + dv < bv)) (vt_orF (vt_test (va_op (vXY cxy rfl rfl rfl) va_c vr_isNi)) (vt_test (va_op (va_var rfl) (vXY cxy rfl rfl rfl) vr_lt))) (fun hb => ?_) (fun hb => ?_)
            · exact put (fun _ _ h => h) (mn_new cx cy fun b h => by rw [cxy] at h; cases h; exact of_decide_eq_true hb)
            · refine ⟨_, _, rfl, S, M.congr fun i j hi hj => ?_⟩
              show oV _ = oV _
              rw [cur_next]
              by_cases d : i = X ∧ j = Y
              · obtain ⟨rfl, rfl⟩ := d; rw [if_pos ⟨rfl, rfl⟩, mn_old cx cy cxy (of_decide_eq_false hb), cur_at]
              · rw [if_neg d]
    · subst es
      exact st_ret (va_var rfl) (q _ _ S ⟨AA, rfl, M.ll⟩)
end
end K45
set_option Elab.async false
set_option linter.all false
set_option maxRecDepth 100000
set_option maxHeartbeats 200000
namespace K45
open PySem PySem.Spec PyProof.Rows L2
abbrev s__law_take : Stmt := topS 57
theorem sc__law_take : FnScope ["_law_d", "_law_b"] ["_law_d", "_law_b"] (defScope s__law_take) := ⟨rfl, rfl, rfl, by decide +kernel, rfl, by decide +kernel, by decide +kernel⟩
def t__law_take (K : PySem.W.Frag) : TS := (tSeq (tIfS (tTest (tOp rEq (tCB (cLen K) (tCons (tVar 0) tNil)) (tC (.int 0)))) (tRet (tC (.int 0))) tNext)
    (tRet (tOp rMod (tCB cInt (tCons (tBM0 K "list" rPop (tVar 0)) tNil)) (tVar 1))))
theorem d__law_take {P : Program} {w : World} {K : PySem.W.Frag} {mg : Str → Option Value} {base : Heap} (B : Bif mg)  {f : Addr} {cdv : Value} {A : Around} {outer : List Env} {s : Shared} {H : Hp} {E : XK} (hr : Room 0 (A.deeper (envOfC "_law_take" (defScope s__law_take) s.heap.objs.size f cdv))) :
    PSs (cxOf CX0 P w K mg base ["_law_d", "_law_b"] "_law_take" (defScope s__law_take) f cdv A outer s H E).nox (defBody s__law_take) (t__law_take K ) := by
  have nd := sc__law_take.nd
  exact (pss_cons (ps_if (pt_cmpR op_eq (pe_callB k_len (by rfl) B.len_ (by decide +kernel) (pa_cons (pv 0) pa_nil)) pe_int (nomark _)) (pss_one (ps_ret pe_int)) pss_nil)
      (pss_one (ps_ret (pe_op k_mod (pe_callTy k_int (by rfl) B.int_ (by decide +kernel) (pa_cons (pe_bm0 PySem.F.plainAttrs_list PySem.F.slot_list_pop PySem.F.type_list_pop mt_pop (pv 0)) pa_nil)) (pv 1)))))

abbrev s__law_ints : Stmt := topS 59
theorem sc__law_ints : FnScope ["_law_thing", "_law_b", "_law_wrong", "_law_k"] ["_law_thing", "_law_b"] (defScope s__law_ints) := ⟨rfl, rfl, rfl, by decide +kernel, rfl, by decide +kernel, by decide +kernel⟩
def t__law_ints (K : PySem.W.Frag) : TS := (tSeq (tIfS (tOr (tNot (tB (tCB (cIsi K) (tCons (tVar 0) (tCons (tC (.ty "tuple")) tNil))))) (tTest (tOp rNe (tCB (cLen K) (tCons (tVar 0) tNil)) (tVar 1)))) (tRet (tC (.bl false))) tNext)
    (tSeq (tAsg (tLc (iTup K (tVar 0)) (gName 3) (tOr (tNot (tB (tCB (cIsi K) (tCons (tVar 3) (tCons (tC (.ty "int")) tNil))))) (tOr (tB (tCB (cIsi K) (tCons (tVar 3) (tCons (tC (.ty "bool")) tNil)))) (tTest (tOp rLt (tVar 3) (tC (.int 0)))))) (tVar 3) [3]) (gName 2))
    (tRet (tOp rEq (tCB (cLen K) (tCons (tVar 2) tNil)) (tC (.int 0))))))
theorem d__law_ints {P : Program} {w : World} {K : PySem.W.Frag} {mg : Str → Option Value} {base : Heap} (B : Bif mg)  {f : Addr} {cdv : Value} {A : Around} {outer : List Env} {s : Shared} {H : Hp} {E : XK} (hr : Room 0 (A.deeper (envOfC "_law_ints" (defScope s__law_ints) s.heap.objs.size f cdv))) :
    PSs (cxOf CX0 P w K mg base ["_law_thing", "_law_b", "_law_wrong", "_law_k"] "_law_ints" (defScope s__law_ints) f cdv A outer s H E).nox (defBody s__law_ints) (t__law_ints K ) := by
  have nd := sc__law_ints.nd
  exact (pss_cons (ps_if (PW.pt (pw_or (pt_not (pt_val (pe_callB k_isi (by rfl) B.isinstance_ (by decide +kernel) (pa_cons (pv 0) (pa_cons (pe_bltn (v := .ty "tuple") (by rfl) B.tuple_ (by decide +kernel) rfl) pa_nil))))) (pw_or1 (pt_cmpR op_ne (pe_callB k_len (by rfl) B.len_ (by decide +kernel) (pa_cons (pv 0) pa_nil)) (pv 1) (nomark _))))) (pss_one (ps_ret pe_bl)) pss_nil)
      (pss_cons (ps_setLc (i := 2) (own := [("_law_k", 3)]) rfl nd rfl rfl (sw_true rfl rfl rfl (by decide +kernel)) (pi_tup (pv 0)) (blkOk_by (own := [("_law_k", 3)]) (by kernel_rfl)) (fun _ _ _ _ _ => (pg_name (i := 3) nd rfl (Or.inl rfl))) (fun _ _ _ _ _ => (pts_one (PW.pt (pw_or (pt_not (pt_val (pe_callB k_isi (by rfl) B.isinstance_ (by decide +kernel) (pa_cons (pv 3) (pa_cons (pe_bltn (v := .ty "int") (by rfl) B.int_ (by decide +kernel) rfl) pa_nil))))) (pw_or (pt_val (pe_callB k_isi (by rfl) B.isinstance_ (by decide +kernel) (pa_cons (pv 3) (pa_cons (pe_bltn (v := .ty "bool") (by rfl) B.bool_ (by decide +kernel) rfl) pa_nil)))) (pw_or1 (pt_cmpR k_lt (pv 3) pe_int (nomark _)))))))) (fun _ _ _ _ _ => (pv 3)))
      (pss_one (ps_ret (pe_cmpR op_eq (pe_callB k_len (by rfl) B.len_ (by decide +kernel) (pa_cons (pv 2) pa_nil)) pe_int (nomark _))))))

abbrev s__law_same : Stmt := topS 58
theorem sc__law_same : FnScope ["_law_thing", "_law_due", "_law_k"] ["_law_thing", "_law_due"] (defScope s__law_same) := ⟨rfl, rfl, rfl, by decide +kernel, rfl, by decide +kernel, by decide +kernel⟩
def t__law_same (K : PySem.W.Frag) (sp__law_same : Sp) : TS := (tSeq (tIfS (tB (tCB (cIsi K) (tCons (tVar 1) (tCons (tC (.ty "tuple")) tNil)))) (tSeq (tIfS (tOr (tNot (tB (tCB (cIsi K) (tCons (tVar 0) (tCons (tC (.ty "tuple")) tNil))))) (tTest (tOp rNe (tCB (cLen K) (tCons (tVar 0) tNil)) (tCB (cLen K) (tCons (tVar 1) tNil))))) (tRet (tC (.bl false))) tNext)
    (tRet (tCB (rAll K) (tCons (tLc (iRng1 (tCons (tCB (cLen K) (tCons (tVar 1) tNil)) tNil)) (gName 2) tYes (tCall sp__law_same [] E0 (tCons (tOp (rIx K) (tVar 0) (tVar 2)) (tCons (tOp (rIx K) (tVar 1) (tVar 2)) tNil))) [2]) tNil)))) tNext)
    (tSeq (tIfS (tTest (tOp kIsN (tVar 1) (tC .non))) (tRet (tOp kIsN (tVar 0) (tC .non))) tNext)
    (tSeq (tIfS (tB (tCB (cIsi K) (tCons (tVar 1) (tCons (tC (.ty "bool")) tNil)))) (tRet (tAndV (tCB (cIsi K) (tCons (tVar 0) (tCons (tC (.ty "bool")) tNil))) (tOp rEq (tVar 0) (tVar 1)))) tNext)
    (tSeq (tIfS (tB (tCB (cIsi K) (tCons (tVar 1) (tCons (tC (.ty "str")) tNil)))) (tRet (tAndV (tCB (cIsi K) (tCons (tVar 0) (tCons (tC (.ty "str")) tNil))) (tOp rEq (tVar 0) (tVar 1)))) tNext)
    (tRet (tAndV (tCB (cIsi K) (tCons (tVar 0) (tCons (tC (.ty "int")) tNil))) (tAndV (tNotV (tCB (cIsi K) (tCons (tVar 0) (tCons (tC (.ty "bool")) tNil)))) (tOp rEq (tVar 0) (tVar 1)))))))))
theorem d__law_same {j : Nat} {P : Program} {w : World} {K : PySem.W.Frag} {mg : Str → Option Value} {base : Heap} (B : Bif mg) {sp__law_same : Sp} (c__law_same : Cal P w K mg base j "_law_same" ["_law_thing", "_law_due"] sp__law_same) {f : Addr} {cdv : Value} {A : Around} {outer : List Env} {s : Shared} {H : Hp} {E : XK} (hr : Room j (A.deeper (envOfC "_law_same" (defScope s__law_same) s.heap.objs.size f cdv))) :
    PSs (cxOf CX0 P w K mg base ["_law_thing", "_law_due", "_law_k"] "_law_same" (defScope s__law_same) f cdv A outer s H E).nox (defBody s__law_same) (t__law_same K sp__law_same) := by
  have nd := sc__law_same.nd
  exact (pss_cons (ps_if (pt_val (pe_callB k_isi (by rfl) B.isinstance_ (by decide +kernel) (pa_cons (pv 1) (pa_cons (pe_bltn (v := .ty "tuple") (by rfl) B.tuple_ (by decide +kernel) rfl) pa_nil)))) (pss_cons (ps_if (PW.pt (pw_or (pt_not (pt_val (pe_callB k_isi (by rfl) B.isinstance_ (by decide +kernel) (pa_cons (pv 0) (pa_cons (pe_bltn (v := .ty "tuple") (by rfl) B.tuple_ (by decide +kernel) rfl) pa_nil))))) (pw_or1 (pt_cmpR op_ne (pe_callB k_len (by rfl) B.len_ (by decide +kernel) (pa_cons (pv 0) pa_nil)) (pe_callB k_len (by rfl) B.len_ (by decide +kernel) (pa_cons (pv 1) pa_nil)) (nomark _))))) (pss_one (ps_ret pe_bl)) pss_nil)
      (pss_one (ps_ret (pe_callB (cr_all rfl) (by rfl) B.all_ (by decide +kernel) (pa_cons (pe_lc (own := [("_law_k", 2)]) rfl nd (pi_range1 (by rfl) B.range_ (pa_cons (pe_callB k_len (by rfl) B.len_ (by decide +kernel) (pa_cons (pv 1) pa_nil)) pa_nil)) (blkOk_by (own := [("_law_k", 2)]) (by kernel_rfl)) (fun _ _ _ _ _ => (pg_name (i := 2) nd rfl (Or.inl rfl))) (fun _ _ _ _ _ => pts_nil) (fun _ _ _ _ _ => (pe_cal c__law_same hr (Nat.le_refl _) (by rfl) (pa_cons (pe_ix ix_seq (pv 0) (pv 2) (fun _ _ => rfl)) (pa_cons (pe_ix ix_seq (pv 1) (pv 2) (fun _ _ => rfl)) pa_nil))))) pa_nil))))) pss_nil)
      (pss_cons (ps_if (pt_cmpR k_isN (pv 1) pe_non (nomark _)) (pss_one (ps_ret (pe_cmpR k_isN (pv 0) pe_non (nomark _)))) pss_nil)
      (pss_cons (ps_if (pt_val (pe_callB k_isi (by rfl) B.isinstance_ (by decide +kernel) (pa_cons (pv 1) (pa_cons (pe_bltn (v := .ty "bool") (by rfl) B.bool_ (by decide +kernel) rfl) pa_nil)))) (pss_one (ps_ret (pe_and (pe_callB k_isi (by rfl) B.isinstance_ (by decide +kernel) (pa_cons (pv 0) (pa_cons (pe_bltn (v := .ty "bool") (by rfl) B.bool_ (by decide +kernel) rfl) pa_nil))) (pe_one (pe_cmpR op_eq (pv 0) (pv 1) (nomark _)))))) pss_nil)
      (pss_cons (ps_if (pt_val (pe_callB k_isi (by rfl) B.isinstance_ (by decide +kernel) (pa_cons (pv 1) (pa_cons (pe_bltn (v := .ty "str") (by rfl) B.str_ (by decide +kernel) rfl) pa_nil)))) (pss_one (ps_ret (pe_and (pe_callB k_isi (by rfl) B.isinstance_ (by decide +kernel) (pa_cons (pv 0) (pa_cons (pe_bltn (v := .ty "str") (by rfl) B.str_ (by decide +kernel) rfl) pa_nil))) (pe_one (pe_cmpR op_eq (pv 0) (pv 1) (nomark _)))))) pss_nil)
      (pss_one (ps_ret (pe_and (pe_callB k_isi (by rfl) B.isinstance_ (by decide +kernel) (pa_cons (pv 0) (pa_cons (pe_bltn (v := .ty "int") (by rfl) B.int_ (by decide +kernel) rfl) pa_nil))) (pe_and (pe_not (pe_callB k_isi (by rfl) B.isinstance_ (by decide +kernel) (pa_cons (pv 0) (pa_cons (pe_bltn (v := .ty "bool") (by rfl) B.bool_ (by decide +kernel) rfl) pa_nil)))) (pe_one (pe_cmpR op_eq (pv 0) (pv 1) (nomark _)))))))))))

abbrev N__law_ints : List Str := ["_law_thing", "_law_b", "_law_wrong", "_law_k"]
abbrev P__law_ints : List Str := ["_law_thing", "_law_b"]
section
variable {P : Program} {w : World} {K : PySem.W.Frag} {mg : Str → Option Value} {base : Heap}
/-- a list of drawn ints -/
def DL (H : Hp) (d : Addr) : Prop := ∃ ns : List Int, H d = some (.lst (ns.map V.int))
theorem DL.same {H H' : Hp} {d : Addr} (h : DL H d) (S : Same H H') : DL H' d := h.imp fun _ e => S _ _ e
def spTake : Sp := fun vs H Q _ => ∃ (d : Addr) (b : Int), vs = [.ref d, .int b] ∧ 0 < b ∧ DL H d ∧ ∀ (k : Int) H', 0 ≤ k → k < b → SX [d] H H' → DL H' d → Q (.int k) H'
theorem cal__law_take (T : Txt K mg) : Cal P w K mg base 1 "_law_take" ["_law_d", "_law_b"] spTake := by
  refine T._law_take.cal sc__law_take (fun vs H Q E h => ?_) (fun f cdv A outer s H vs Q E hr h => ⟨_, d__law_take T.B hr, ?_⟩)
  · obtain ⟨d, b, rfl, _⟩ := h; rfl
  obtain ⟨d, b, rfl, hb, ⟨ns, hd⟩, q⟩ := h
  unfold t__law_take
  refine q_ifn (b := decide (((ns.map V.int).length : Int) = 0)) (vt_test (va_op (va_cb (vs_cons (va_var rfl) vs_nil) (vc_lenL (SqL.of hd))) va_c vr_eqI)) (fun h => ?_) (fun h => ?_)
  · exact st_ret va_c (q 0 H (Int.le_refl 0) hb (.of (Same.refl H)) ⟨ns, hd⟩)
  · have hne : ns ≠ [] := fun z => by subst z; exact of_decide_eq_false h rfl
    have hlen : ns.length - 1 < ns.length := by have := List.length_pos_iff.mpr hne; omega
    unfold tRet tOp tCB tCons tNil tBM0
    refine va_var (v := .ref d) rfl _ ⟨.inl ⟨rfl, _, SqL.of hd⟩, d, ns.map V.int, .int ns[ns.length - 1], rfl, rfl, hd, by rw [List.length_map, List.getElem?_map, List.getElem?_eq_getElem hlen]; rfl, ?_⟩
    refine .inl ⟨_, rfl, va_var (v := .int b) rfl _ ⟨_, _, rfl, rfl, hb, ?_⟩⟩
    refine q _ _ (Int.emod_nonneg _ (by omega)) (Int.emod_lt_of_pos _ hb) ((SX.of (Same.refl H)).put (List.mem_cons_self ..) hd) ⟨ns.dropLast, ?_⟩
    rw [upd_same, List.map_dropLast]
/-- a tuple of ints that are no less than 0 -/
def spInts (K : PySem.W.Frag) : Sp := fun vs H Q _ => ∃ (n : Nat) (a : Addr) (f : Nat → Int), vs = [.ref a, .int (n : Int)] ∧ SqT K H a (tabI n f) ∧ n ≤ 1000 ∧ (∀ i, i < n → 0 ≤ f i) ∧ Ret (fun v _ => v = .bl true) H Q
theorem given_none {n : Nat} {f : Nat → V} : given n (fun _ => false) f = [] := by
  unfold given
  rw [List.filter_eq_nil_iff.mpr (fun _ _ h => by cases h)]; rfl
theorem rd__law_ints {vs : List V} {H : Hp} {Q : VK} {E : XK} (h : spInts K vs H Q E) : t__law_ints K { nx := fun _ H' => Q .non H', rt := Q } (start N__law_ints vs) H := by
  obtain ⟨n, a, f, rfl, ha, hn, h0, q⟩ := h
  unfold t__law_ints
  refine q_ifFn (vt_is (vt_orF (vt_is (vt_not (vt_B (va_cb (vs_cons (va_var rfl) (vs_cons va_c vs_nil)) (vc_isi (.tup a _ ha))))) rfl) (vt_test (va_op (va_cb (vs_cons (va_var rfl) vs_nil) (vc_lenTt ha)) (va_var rfl) vr_neI))) (by simp)) ?_
  refine q_asgA (al_lcF (fun _ => false) (fun i => .int (f i)) (src_T (n := n) (f := fun i => .int (f i)) (va_var rfl) ha) (fun _ => rfl) (by omega) (fun i H1 hi S1 => at_vt (vt_orF (vt_is (vt_not (vt_B (va_cb (vs_cons (va_var (v := .int (f i)) rfl) (vs_cons va_c vs_nil)) (vc_isi (.intI _))))) rfl) (vt_orF (vt_B (va_cb (vs_cons (va_var (v := .int (f i)) rfl) (vs_cons va_c vs_nil)) (vc_isi (.intB _)))) (vt_is (vt_test (va_op (va_var (v := .int (f i)) rfl) va_c vr_lt)) (decide_eq_false (by have := h0 i hi; omega)))))) fun i H1 hi S1 hb => by cases hb) fun v H1 S1 ⟨p, ev, _, hp⟩ => ?_
  subst ev
  rw [given_none] at hp
  exact st_ret (va_is (va_op (va_cb (vs_cons (va_var rfl) vs_nil) (vc_lenL (SqL.of hp))) va_c vr_eqI) rfl) (q _ _ S1 rfl)
theorem len__law_ints {vs : List V} {H : Hp} {Q : VK} {E : XK} (h : spInts K vs H Q E) : vs.length = P__law_ints.length := by
  obtain ⟨n, a, f, rfl, _⟩ := h; rfl
theorem cal__law_ints (T : Txt K mg) : Cal P w K mg base 1 "_law_ints" ["_law_thing", "_law_b"] (spInts K) :=
  T._law_ints.cal sc__law_ints (fun vs H Q E h => len__law_ints h) (fun f cdv A outer s H vs Q E hr h => ⟨_, d__law_ints T.B hr, rd__law_ints h⟩)
/-- the same, of so much depth -/
inductive SameR (K : PySem.W.Frag) (H : Hp) : Nat → V → V → Prop where
  | non {d : Nat} : SameR K H d .non .non
  | bl {d : Nat} (b : Bool) : SameR K H d (.bl b) (.bl b)
  | int {d : Nat} (i : Int) : SameR K H d (.int i) (.int i)
  | tup {d n : Nat} {a b : Addr} {f g : Nat → V} : SqT K H a (tab n f) → SqT K H b (tab n g) → n ≤ 1000 → (∀ i, i < n → SameR K H d (f i) (g i)) → SameR K H (d + 1) (.ref a) (.ref b)
theorem SameR.mono {H H' : Hp} {d : Nat} {x y : V} (h : SameR K H d x y) (S : Same H H') : SameR K H' d x y := by
  induction h with
  | non => exact .non
  | bl b => exact .bl b
  | int i => exact .int i
  | tup h1 h2 hn _ ih => exact .tup (S.t h1) (S.t h2) hn ih
def spSame (K : PySem.W.Frag) : Nat → Sp
  | 0 => fun _ _ _ _ => False
  | d + 1 => fun vs H Q _ => ∃ x y, vs = [x, y] ∧ SameR K H d x y ∧ Ret (fun v _ => v = .bl true) H Q
theorem cal__law_same (T : Txt K mg) : ∀ d, Cal P w K mg base (d + 1) "_law_same" ["_law_thing", "_law_due"] (spSame K d)
  | 0 => T._law_same.cal sc__law_same (fun vs H Q E h => h.elim) (fun f cdv A outer s H vs Q E hr h => h.elim)
  | d + 1 => by
    refine T._law_same.cal sc__law_same (fun vs H Q E h => ?_) (fun f cdv A outer s H vs Q E hr h => ⟨_, d__law_same T.B (cal__law_same T d) hr, ?_⟩)
    · obtain ⟨x, y, rfl, _⟩ := h; rfl
    obtain ⟨x, y, rfl, hs, q⟩ := h
    unfold t__law_same
    cases hs with
    | non =>
      refine q_ifFn (vt_B (va_cb (vs_cons (va_var rfl) (vs_cons va_c vs_nil)) (vc_isi (.non "tuple" (.inr (.inr (.inl rfl))))))) ?_
      exact q_ifT (vt_test (va_op (va_var (v := .non) rfl) va_c vr_isNn)) (st_ret (va_op (va_var (v := .non) rfl) va_c vr_isNn) (q _ _ (Same.refl H) rfl))
    | bl b =>
      refine q_ifFn (vt_B (va_cb (vs_cons (va_var rfl) (vs_cons va_c vs_nil)) (vc_isi (.blT b)))) ?_
      refine q_ifFn (vt_is (vt_test (va_op (va_var (v := .bl b) rfl) va_c vr_isN)) rfl) ?_
      refine q_ifT (vt_B (va_cb (vs_cons (va_var rfl) (vs_cons va_c vs_nil)) (vc_isi (.blB b)))) ?_
      exact st_ret (va_is (va_and (a := true) (va_cb (vs_cons (va_var rfl) (vs_cons va_c vs_nil)) (vc_isi (.blB b))) fun _ => va_op (va_var (v := .bl b) rfl) (va_var (v := .bl b) rfl) (vr_eq rfl)) (by rw [decide_eq_true rfl]; rfl)) (q _ _ (Same.refl H) rfl)
    | int i =>
      refine q_ifFn (vt_B (va_cb (vs_cons (va_var rfl) (vs_cons va_c vs_nil)) (vc_isi (.intT i)))) ?_
      refine q_ifFn (vt_test (va_op (va_var (v := .int i) rfl) va_c vr_isNi)) ?_
      refine q_ifFn (vt_B (va_cb (vs_cons (va_var rfl) (vs_cons va_c vs_nil)) (vc_isi (.intB i)))) ?_
      refine q_ifFn (vt_B (va_cb (vs_cons (va_var rfl) (vs_cons va_c vs_nil)) (vc_isi (.intS i)))) ?_
      exact st_ret (va_is (va_and (a := true) (va_cb (vs_cons (va_var rfl) (vs_cons va_c vs_nil)) (vc_isi (.intI i))) fun _ => va_and (a := true) (va_not (va_cb (vs_cons (va_var rfl) (vs_cons va_c vs_nil)) (vc_isi (.intB i)))) fun _ => va_op (va_var (v := .int i) rfl) (va_var (v := .int i) rfl) vr_eqI) (by rw [decide_eq_true rfl]; rfl)) (q _ _ (Same.refl H) rfl)
    | @tup d' n a b f g h1 h2 hn hf =>
      refine q_ifT (vt_B (va_cb (vs_cons (va_var rfl) (vs_cons va_c vs_nil)) (vc_isi (.tup b _ h2)))) ?_
      refine q_ifFn (vt_is (vt_orF (vt_is (vt_not (vt_B (va_cb (vs_cons (va_var rfl) (vs_cons va_c vs_nil)) (vc_isi (.tup a _ h1))))) rfl) (vt_test (va_op (va_cb (vs_cons (va_var rfl) vs_nil) (vc_lenTt h1)) (va_cb (vs_cons (va_var rfl) vs_nil) (vc_lenTt h2)) vr_neI))) (by simp)) ?_
      refine st_retA (al_all (al_lcV (fun _ => .bl true) (src_R (n := n) (vs_cons (va_cb (vs_cons (va_var rfl) vs_nil) (vc_lenTt h2)) vs_nil) (by omega)) (fun _ => rfl) (by omega) fun i H1 hi S1 => al_call (P := fun v _ => v = .bl true) (vs_cons (va_op (va_var rfl) (va_var rfl) (vr_xTt (S1.t h1) hi)) (vs_cons (va_op (va_var rfl) (va_var rfl) (vr_xTt (S1.t h2) hi)) vs_nil)) fun Q E r => ⟨f i, g i, rfl, (hf i hi).mono S1, r⟩)) fun v H1 S1 e => q v H1 S1 ?_
      rw [e, all_true fun i hi => rfl]
end
end K45
set_option Elab.async false
set_option linter.all false
set_option maxRecDepth 100000
set_option maxHeartbeats 200000
namespace K45
open PySem PySem.Spec PyProof.Rows L2
abbrev s__law_rooms : Stmt := topS 62
theorem sc__law_rooms : FnScope ["_law_g", "_law_t", "_law_a", "_law_rows", "_law_x", "_law_row", "_law_k"] ["_law_g", "_law_t"] (defScope s__law_rooms) := ⟨rfl, rfl, rfl, by decide +kernel, rfl, by decide +kernel, by decide +kernel⟩
def t__law_rooms (K : PySem.W.Frag) (sp__law_walks : Sp) : TS := (tSeq (tAsg (tCall sp__law_walks [] E0 (tCons (tVar 0) (tCons (tVar 1) (tCons (tTup tNil) tNil)))) (gName 2))
    (tSeq (tAsg (tLst tNil) (gName 3))
    (tSeq (tFor (iRng1 (tCons (tCB (cLen K) (tCons (tVar 0) tNil)) tNil)) (gName 4) (tSeq (tAsg (tLc (iList K (tVar 2)) (gName 6) tYes (tIf (tTest (tOp kIsN (tOp (rIx K) (tVar 6) (tVar 4)) (tC .non))) (tC .non) (tOp rAdd (tOp (rIx K) (tVar 1) (tVar 4)) (tOp rFdv (tOp (rIx K) (tVar 6) (tVar 4)) (tC (.int 64))))) [6]) (gName 5))
    (tSeq (tAsg (tC (.int 0)) (gSub (tVar 5) (tVar 4) rSetL))
    (tDrop (tBM K "list" rAppend (tVar 3) (tCons (tCB (cTup K) (tCons (tVar 5) tNil)) tNil))))))
    (tRet (tCB (cTup K) (tCons (tVar 3) tNil))))))
theorem d__law_rooms {P : Program} {w : World} {K : PySem.W.Frag} {mg : Str → Option Value} {base : Heap} (B : Bif mg) {sp__law_walks : Sp} (c__law_walks : Cal P w K mg base 1 "_law_walks" ["_law_g", "_law_t", "_law_without"] sp__law_walks) {f : Addr} {cdv : Value} {A : Around} {outer : List Env} {s : Shared} {H : Hp} {E : XK} (hr : Room 1 (A.deeper (envOfC "_law_rooms" (defScope s__law_rooms) s.heap.objs.size f cdv))) :
    PSs (cxOf CX0 P w K mg base ["_law_g", "_law_t", "_law_a", "_law_rows", "_law_x", "_law_row", "_law_k"] "_law_rooms" (defScope s__law_rooms) f cdv A outer s H E).nox (defBody s__law_rooms) (t__law_rooms K sp__law_walks) := by
  have nd := sc__law_rooms.nd
  exact (pss_cons (ps_set (i := 2) nd rfl (Or.inl rfl) (pe_cal c__law_walks hr (by decide) (by rfl) (pa_cons (pv 0) (pa_cons (pv 1) (pa_cons (pe_tup pa_nil) pa_nil)))))
      (pss_cons (ps_set (i := 3) nd rfl (Or.inl rfl) (pe_lst pa_nil))
      (pss_cons (ps_for PassesOwn.never rfl (pi_range1 (by rfl) B.range_ (pa_cons (pe_callB k_len (by rfl) B.len_ (by decide +kernel) (pa_cons (pv 0) pa_nil)) pa_nil)) (pg_name (i := 4) nd rfl (Or.inr rfl)) (pss_cons (ps_setLc (i := 5) (own := [("_law_k", 6)]) rfl nd rfl rfl (sw_true rfl rfl rfl (by decide +kernel)) (pi_list (pv 2)) (blkOk_by (own := [("_law_k", 6)]) (by kernel_rfl)) (fun _ _ _ _ _ => (pg_name (i := 6) nd rfl (Or.inl rfl))) (fun _ _ _ _ _ => pts_nil) (fun _ _ _ _ _ => (pe_ifExp (pt_cmpR k_isN (pe_ix ix_seq (pv 6) (pv 4) (fun _ _ => rfl)) pe_non (nomark _)) pe_non (pe_op k_add (pe_ix ix_seq (pv 1) (pv 4) (fun _ _ => rfl)) (pe_op k_fdv (pe_ix ix_seq (pv 6) (pv 4) (fun _ _ => rfl)) pe_int)))))
      (pss_cons (ps_asg pe_int (pg_sub (pv 5) (pv 4) set_list))
      (pss_one (ps_expr (pe_bm PySem.F.plainAttrs_list PySem.F.slot_list_append PySem.F.type_list_append mt_append (pv 3) (pa_cons (pe_callTy k_tuple (by rfl) B.tuple_ (by decide +kernel) (pa_cons (pv 5) pa_nil)) pa_nil)))))))
      (pss_one (ps_ret (pe_callTy k_tuple (by rfl) B.tuple_ (by decide +kernel) (pa_cons (pv 3) pa_nil)))))))

section
variable {P : Program} {w : World} {K : PySem.W.Frag} {mg : Str → Option Value} {base : Heap}
/-- a table and kept waits, a list or a tuple -/
structure TK (K : PySem.W.Frag) (H : Hp) (n : Nat) (a b : Addr) (g : Gr) (t : Nat → Int) : Prop where
  tab : TR K H a n n (oI g)
  wai : SqL K H b (tabI n t) ∨ SqT K H b (tabI n t)
  one : 1 ≤ n
  le : n ≤ 60
  kept : Kept n g t
theorem TK.mono {H H' : Hp} {n : Nat} {a b : Addr} {g : Gr} {t : Nat → Int} (h : TK K H n a b g t) (S : Same H H') : TK K H' n a b g t := ⟨S.tt h.tab, SqA.mono h.wai S, h.one, h.le, h.kept⟩
/-- what the law's walks tell of the way from y to x -/
def Way (n : Nat) (u : Gr) (x y : Nat) (o : Option Int) : Prop := (o = none ∧ bestS n u x y = none) ∨ ∃ (s : Int) (h : Nat), o = some ((h : Int) - 64 * s) ∧ bestS n u x y = some s ∧ h < 64 ∧ Wk n u y x s h ∧ ∀ h', Wk n u y x s h' → h ≤ h'
theorem Way.div {s : Int} {h : Nat} (hh : h < 64) : ((h : Int) - 64 * s) / 64 = -s := by omega
theorem way_of {n : Nat} {g : Gr} {t : Nat → Int} {z : Option Nat} (hk : Kept n g t) (hn : n ≤ 60) {x y : Nat} (hx : x < n) (hy : y < n) : Way n (shun z (gn g t)) x y (fw (shun z (gn g t)) n y x) := by
  obtain ⟨p, f⟩ := hk
  have hf : Feas n (shun z (gn g t)) p := fun u v hu hv g' e => by
    cases z with
    | none => exact f u v hu hv g' e
    | some z => exact f u v hu hv g' (off_some e).2
  exact fw_best (shun_self (gn_self g t)) hf (by omega) hx hy
theorem way_off {n : Nat} {g : Gr} {t : Nat → Int} (hk : Kept n g t) {x : Nat} (hx : x < n) {y : Nat} (hy : y < n) : bestS n (off x (gn g t)) x y = bestS n (gn g t) x y := by
  obtain ⟨F, τ, b⟩ := kept_best hk hx
  exact bestS_congr b (fun u v ne => off_ne ne) hy
theorem al_walks {σ : L2.St} {H : Hp} {n : Nat} {a b : Addr} {g : Gr} {t : Nat → Int} {z : Option Nat} {ta tb tc : TE} (hT : TK K H n a b g t) (ha : Va ta σ H (.ref a)) (hb : Va tb σ H (.ref b)) (hc : Al tc σ H (IsNewT H (shunV z))) :
    Al (tCall (spWalks2 K) [] E0 (tCons ta (tCons tb (tCons tc tNil)))) σ H (IsLL K n n (oI (fw (shun z (gn g t)) n))) := fun Q q => ha _ (hb _ (hc _ fun v H1 S1 ⟨p, ev, _, hp⟩ => by
  subst ev
  exact ⟨n, a, b, p, g, t, z, rfl, S1.tt hT.tab, SqA.mono hT.wai S1, SqT.of hp, by have := hT.le; omega, hT.kept, fun v H2 S2 r => q v H2 (S1.trans S2) r⟩))
def spRooms (K : PySem.W.Frag) : Sp := fun vs H Q _ => ∃ (n : Nat) (a b : Addr) (g : Gr) (t : Nat → Int), vs = [.ref a, .ref b] ∧ TK K H n a b g t ∧ Ret (IsTR K n n (oI (roomF n g t))) H Q
theorem al_tupR {σ : L2.St} {H : Hp} {n : Nat} {R : Addr} {ad : Nat → Addr} {F : Nat → Nat → V} {te : TE} (h : Va te σ H (.ref R)) (hl : H R = some (.lst (tab n fun i => .ref (ad i)))) (hr : ∀ i, i < n → SqT K H (ad i) (tab n (F i))) : Al (tCB (cTup K) (tCons te tNil)) σ H (IsTR K n n F) :=
  Al.imp (al_tupL h (SqL.of hl)) fun v H' S ⟨p, e1, _, e3⟩ => ⟨p, e1, ad, SqT.of e3, fun i hi => S.t (hr i hi)⟩
theorem cal__law_rooms (T : Txt K mg) : Cal P w K mg base 2 "_law_rooms" ["_law_g", "_law_t"] (spRooms K) := by
  refine T._law_rooms.cal sc__law_rooms (fun vs H Q E h => ?_) (fun f cdv A outer s H vs Q E hr h => ⟨_, d__law_rooms T.B (cal__law_walks T) hr, ?_⟩)
  · obtain ⟨n, a, b, g, t, rfl, _⟩ := h; rfl
  obtain ⟨n, a, b, g, t, rfl, hT, q⟩ := h
  have hn := hT.le
  unfold t__law_rooms
  refine q_asgA (al_walks (z := none) hT (va_var rfl) (va_var rfl) (al_tup (vs := []) vs_nil)) fun v H1 S1 ⟨AA, ev, hA⟩ => ?_
  subst ev
  obtain ⟨aad, hA1, hA2⟩ := hA
  refine q_asgA (al_lst (vs := []) vs_nil) fun v H2 S2 ⟨R, ev, nR, hR⟩ => ?_
  subst ev
  have hT2 := hT.mono (S1.trans S2)
  refine q_forR (n := n) (vs_cons (va_cb (vs_cons (va_var rfl) vs_nil) (vc_lenTT hT2.tab)) vs_nil) (by omega) (fun x σ' H' => ∃ v4 v5, ∃ ad : Nat → Addr, σ' = [some (.ref a), some (.ref b), some (.ref AA), some (.ref R), v4, v5, none] ∧ Same H1 H' ∧ H' R = some (.lst (tab x fun i => .ref (ad i))) ∧ ∀ i, i < x → SqT K H' (ad i) (tab n (oI (roomF n g t) i)))
    ⟨none, none, fun _ => 0, rfl, S2, hR, fun i hi => absurd hi (Nat.not_lt_zero i)⟩ (fun x σ' H' hx ⟨v4, v5, ad, es, S, e1, e2⟩ => ?_) (fun σ' H' ⟨v4, v5, ad, es, S, e1, e2⟩ => ?_)
  · subst es
    have hTx := (hT.mono S1).mono S
    let rv : Nat → Option Int := fun y => (fw (shun none (gn g t)) n y x).map fun c => t x + c / 64
    refine q_asgA (P := IsNewL H' (tab n fun y => oV (rv y))) (al_lcV (fun y => oV (rv y)) (src_L (n := n) (f := fun y => .ref (aad y)) (va_var rfl) (S.l hA1)) (fun _ => rfl) (by omega) fun y H3 hy S3 => al_va ?_) fun v H3 S3 ⟨r, ev, nr, hr⟩ => ?_
    · have vk : ∀ {σ : L2.St}, σ[6]? = some (some (.ref (aad y))) → σ[4]? = some (some (.int (x : Int))) → Va (tOp (rIx K) (tVar 6) (tVar 4)) σ H3 (oV (fw (shun none (gn g t)) n y x)) := fun h6 h4 => va_op (va_var h6) (va_var h4) (vr_xLl ((S.trans S3).l (hA2 y hy)) hx)
      show Va _ _ _ (oV ((fw (shun none (gn g t)) n y x).map fun c => t x + c / 64))
      cases c : fw (shun none (gn g t)) n y x with
      | none => exact va_ifT (vt_test (va_op (va_is (vk rfl rfl) (oV_none c)) va_c vr_isNn)) va_c
      | some c' => exact va_ifF (vt_test (va_op (va_is (vk rfl rfl) (oV_some c)) va_c vr_isNi)) (va_op (va_op (va_var rfl) (va_var rfl) (vr_xA (SqA.mono hTx.wai S3) hx)) (va_op (va_is (vk rfl rfl) (oV_some c)) va_c (vr_fdv (by constructor <;> omega))) vr_add)
    subst ev
    have nrR : r ≠ R := fun z => by rw [z, e1] at nr; cases nr
    refine q_setL (j := x) (n := n) va_c (va_var rfl) (va_var rfl) hr hx ?_
    have hS : Same H1 (upd H3 r (.lst (tab n (up (fun y => oV (rv y)) x (.int 0))))) := same_mut (S.trans S3) (S.none nr)
    refine st_appA (va_var rfl) (al_tupL (K := K) (va_var (v := .ref r) rfl) (SqL.of upd_same)) (show upd H3 r _ R = _ by rw [upd_ne (Ne.symm nrR)]; exact S3 _ _ e1) (by rw [tab_len]; omega) fun v H4 S4 ⟨p, ev, np, hp⟩ => ?_
    subst ev
    have SXf : SX [r, R] H' (upd H4 R (.lst ((tab x fun i => V.ref (ad i)) ++ [.ref p]))) := by
      have h1 : SX [r, R] H' (upd H3 r (.lst (tab n (up (fun y => oV (rv y)) x (.int 0))))) := (SX.of S3).put (by simp) hr
      exact (h1.same S4).put (by simp) (S4 _ _ (show upd H3 r _ R = some (.lst (tab x fun i => .ref (ad i))) by rw [upd_ne (Ne.symm nrR)]; exact S3 _ _ e1))
    have npR : p ≠ R := fun z => by
      rw [z, upd_ne (Ne.symm nrR)] at np
      have := S3 _ _ e1
      rw [this] at np; cases np
    refine ⟨_, _, up ad x p, rfl, SX.after S SXf (fun b hb => ?_), ?_, fun i hi => ?_⟩
    · rcases List.mem_cons.mp hb with z | z
      · rw [z]; exact S.none nr
      · rw [List.mem_singleton.mp z]; exact nR
    · rw [upd_same, tab_succ, up_same]
      exact congrArg (fun l => some (HO.lst (l ++ [V.ref p]))) (tab_congr fun i hi => by rw [up_ne (Nat.ne_of_lt hi)])
    · by_cases c : i = x
      · subst c
        rw [up_same]
        have : tab n (up (fun y => oV (rv y)) i (.int 0)) = tab n (oI (roomF n g t) i) := tab_congr fun y hy => by
          by_cases d : y = i
          · subst d; rw [up_same]; show V.int 0 = oV (roomF n g t y y); unfold roomF; rw [if_pos rfl]; rfl
          · rw [up_ne d]
            show oV (rv y) = oV (roomF n g t i y)
            unfold roomF
            rw [if_neg d]
            have W := way_of (z := none) hT.kept hn hx hy
            rcases W with ⟨w1, w2⟩ | ⟨s, h, w1, w2, w3, _⟩
            · show oV ((fw (shun none (gn g t)) n y i).map _) = _
              have w2 : bestS n (gn g t) i y = none := w2
              rw [w1, w2]; rfl
            · show oV ((fw (shun none (gn g t)) n y i).map _) = _
              have w2 : bestS n (gn g t) i y = some s := w2
              rw [w1, w2]
              show V.int (t i + ((h : Int) - 64 * s) / 64) = V.int (t i - s)
              rw [Way.div w3]
              rfl
        rw [← this]
        exact SqT.of (by rw [upd_ne npR]; exact hp)
      · rw [up_ne c]; exact SXf.t (e2 i (by omega))
  · subst es
    exact st_retA (al_tupR (va_var rfl) e1 e2) fun v H3 S3 p => q v H3 ((S1.trans S).trans S3) p
end
end K45
set_option Elab.async false
set_option linter.all false
set_option maxRecDepth 100000
set_option maxHeartbeats 200000
namespace K45
open PySem PySem.Spec PyProof.Rows L2
abbrev s__law_kept : Stmt := topS 63
theorem sc__law_kept : FnScope ["_law_g", "_law_t", "_law_a", "_law_x", "_law_y"] ["_law_g", "_law_t"] (defScope s__law_kept) := ⟨rfl, rfl, rfl, by decide +kernel, rfl, by decide +kernel, by decide +kernel⟩
def t__law_kept (K : PySem.W.Frag) (sp__law_walks : Sp) : TS := (tSeq (tAsg (tCall sp__law_walks [] E0 (tCons (tVar 0) (tCons (tVar 1) (tCons (tTup tNil) tNil)))) (gName 2))
    (tSeq (tFor (iRng1 (tCons (tCB (cLen K) (tCons (tVar 0) tNil)) tNil)) (gName 3) (tFor (iRng1 (tCons (tCB (cLen K) (tCons (tVar 0) tNil)) tNil)) (gName 4) (tIfS (tAnd (tTest (tOp rNe (tVar 3) (tVar 4))) (tAnd (tTest (tOp kNotN (tOp (rIx K) (tOp (rIx K) (tVar 0) (tVar 3)) (tVar 4)) (tC .non))) (tTest (tOp kNotN (tOp (rIx K) (tOp (rIx K) (tVar 2) (tVar 4)) (tVar 3)) (tC .non))))) (tIfS (tTest (tOp rLt (tOp rAdd (tOp rSub (tOp (rIx K) (tVar 1) (tVar 3)) (tOp (rIx K) (tOp (rIx K) (tVar 0) (tVar 3)) (tVar 4))) (tOp rFdv (tOp (rIx K) (tOp (rIx K) (tVar 2) (tVar 4)) (tVar 3)) (tC (.int 64)))) (tC (.int 0)))) (tRet (tC (.bl false))) tNext) tNext)))
    (tRet (tC (.bl true)))))
theorem d__law_kept {P : Program} {w : World} {K : PySem.W.Frag} {mg : Str → Option Value} {base : Heap} (B : Bif mg) {sp__law_walks : Sp} (c__law_walks : Cal P w K mg base 1 "_law_walks" ["_law_g", "_law_t", "_law_without"] sp__law_walks) {f : Addr} {cdv : Value} {A : Around} {outer : List Env} {s : Shared} {H : Hp} {E : XK} (hr : Room 1 (A.deeper (envOfC "_law_kept" (defScope s__law_kept) s.heap.objs.size f cdv))) :
    PSs (cxOf CX0 P w K mg base ["_law_g", "_law_t", "_law_a", "_law_x", "_law_y"] "_law_kept" (defScope s__law_kept) f cdv A outer s H E).nox (defBody s__law_kept) (t__law_kept K sp__law_walks) := by
  have nd := sc__law_kept.nd
  exact (pss_cons (ps_set (i := 2) nd rfl (Or.inl rfl) (pe_cal c__law_walks hr (by decide) (by rfl) (pa_cons (pv 0) (pa_cons (pv 1) (pa_cons (pe_tup pa_nil) pa_nil)))))
      (pss_cons (ps_for PassesOwn.never rfl (pi_range1 (by rfl) B.range_ (pa_cons (pe_callB k_len (by rfl) B.len_ (by decide +kernel) (pa_cons (pv 0) pa_nil)) pa_nil)) (pg_name (i := 3) nd rfl (Or.inl rfl)) (pss_one (ps_for PassesOwn.never rfl (pi_range1 (by rfl) B.range_ (pa_cons (pe_callB k_len (by rfl) B.len_ (by decide +kernel) (pa_cons (pv 0) pa_nil)) pa_nil)) (pg_name (i := 4) nd rfl (Or.inl rfl)) (pss_one (ps_if (PW.pt (pw_and (pt_cmpR op_ne (pv 3) (pv 4) (nomark _)) (pw_and (pt_cmpR k_notN (pe_ix ix_seq (pe_ix ix_seq (pv 0) (pv 3) (fun _ _ => rfl)) (pv 4) (fun _ _ => rfl)) pe_non (nomark _)) (pw_and1 (pt_cmpR k_notN (pe_ix ix_seq (pe_ix ix_seq (pv 2) (pv 4) (fun _ _ => rfl)) (pv 3) (fun _ _ => rfl)) pe_non (nomark _)))))) (pss_one (ps_if (pt_cmpR k_lt (pe_op k_add (pe_op k_sub (pe_ix ix_seq (pv 1) (pv 3) (fun _ _ => rfl)) (pe_ix ix_seq (pe_ix ix_seq (pv 0) (pv 3) (fun _ _ => rfl)) (pv 4) (fun _ _ => rfl))) (pe_op k_fdv (pe_ix ix_seq (pe_ix ix_seq (pv 2) (pv 4) (fun _ _ => rfl)) (pv 3) (fun _ _ => rfl)) pe_int)) pe_int (nomark _)) (pss_one (ps_ret pe_bl)) pss_nil)) pss_nil)))))
      (pss_one (ps_ret pe_bl))))

abbrev s__law_lower : Stmt := topS 64
theorem sc__law_lower : FnScope ["_law_g", "_law_t", "_law_x", "_law_a", "_law_needs", "_law_y", "_law_k"] ["_law_g", "_law_t", "_law_x"] (defScope s__law_lower) := ⟨rfl, rfl, rfl, by decide +kernel, rfl, by decide +kernel, by decide +kernel⟩
def t__law_lower (K : PySem.W.Frag) (sp__law_walks : Sp) : TS := (tSeq (tAsg (tCall sp__law_walks [] E0 (tCons (tVar 0) (tCons (tVar 1) (tCons (tTup (tCons (tVar 2) tNil)) tNil)))) (gName 3))
    (tSeq (tAsg (tLst (tCons (tC (.int 0)) tNil)) (gName 4))
    (tSeq (tFor (iRng1 (tCons (tCB (cLen K) (tCons (tVar 0) tNil)) tNil)) (gName 5) (tIfS (tAnd (tTest (tOp rNe (tVar 5) (tVar 2))) (tAnd (tTest (tOp kNotN (tOp (rIx K) (tOp (rIx K) (tVar 0) (tVar 2)) (tVar 5)) (tC .non))) (tTest (tOp kNotN (tOp (rIx K) (tOp (rIx K) (tVar 3) (tVar 5)) (tVar 2)) (tC .non))))) (tDrop (tBM K "list" rAppend (tVar 4) (tCons (tOp rSub (tOp (rIx K) (tOp (rIx K) (tVar 0) (tVar 2)) (tVar 5)) (tOp rFdv (tOp (rIx K) (tOp (rIx K) (tVar 3) (tVar 5)) (tVar 2)) (tC (.int 64)))) tNil))) tNext))
    (tRet (tCB (cTup K) (tCons (tLc (iRng1 (tCons (tCB (cLen K) (tCons (tVar 0) tNil)) tNil)) (gName 6) tYes (tIf (tTest (tOp rEq (tVar 6) (tVar 2))) (tCB (cMax K) (tCons (tVar 4) tNil)) (tOp (rIx K) (tVar 1) (tVar 6))) [6]) tNil))))))
theorem d__law_lower {P : Program} {w : World} {K : PySem.W.Frag} {mg : Str → Option Value} {base : Heap} (B : Bif mg) {sp__law_walks : Sp} (c__law_walks : Cal P w K mg base 1 "_law_walks" ["_law_g", "_law_t", "_law_without"] sp__law_walks) {f : Addr} {cdv : Value} {A : Around} {outer : List Env} {s : Shared} {H : Hp} {E : XK} (hr : Room 1 (A.deeper (envOfC "_law_lower" (defScope s__law_lower) s.heap.objs.size f cdv))) :
    PSs (cxOf CX0 P w K mg base ["_law_g", "_law_t", "_law_x", "_law_a", "_law_needs", "_law_y", "_law_k"] "_law_lower" (defScope s__law_lower) f cdv A outer s H E).nox (defBody s__law_lower) (t__law_lower K sp__law_walks) := by
  have nd := sc__law_lower.nd
  exact (pss_cons (ps_set (i := 3) nd rfl (Or.inl rfl) (pe_cal c__law_walks hr (by decide) (by rfl) (pa_cons (pv 0) (pa_cons (pv 1) (pa_cons (pe_tup (pa_cons (pv 2) pa_nil)) pa_nil)))))
      (pss_cons (ps_set (i := 4) nd rfl (Or.inr rfl) (pe_lst (pa_cons pe_int pa_nil)))
      (pss_cons (ps_for PassesOwn.never rfl (pi_range1 (by rfl) B.range_ (pa_cons (pe_callB k_len (by rfl) B.len_ (by decide +kernel) (pa_cons (pv 0) pa_nil)) pa_nil)) (pg_name (i := 5) nd rfl (Or.inl rfl)) (pss_one (ps_if (PW.pt (pw_and (pt_cmpR op_ne (pv 5) (pv 2) (nomark _)) (pw_and (pt_cmpR k_notN (pe_ix ix_seq (pe_ix ix_seq (pv 0) (pv 2) (fun _ _ => rfl)) (pv 5) (fun _ _ => rfl)) pe_non (nomark _)) (pw_and1 (pt_cmpR k_notN (pe_ix ix_seq (pe_ix ix_seq (pv 3) (pv 5) (fun _ _ => rfl)) (pv 2) (fun _ _ => rfl)) pe_non (nomark _)))))) (pss_one (ps_expr (pe_bm PySem.F.plainAttrs_list PySem.F.slot_list_append PySem.F.type_list_append mt_append (pv 4) (pa_cons (pe_op k_sub (pe_ix ix_seq (pe_ix ix_seq (pv 0) (pv 2) (fun _ _ => rfl)) (pv 5) (fun _ _ => rfl)) (pe_op k_fdv (pe_ix ix_seq (pe_ix ix_seq (pv 3) (pv 5) (fun _ _ => rfl)) (pv 2) (fun _ _ => rfl)) pe_int)) pa_nil)))) pss_nil)))
      (pss_one (ps_ret (pe_callTy k_tuple (by rfl) B.tuple_ (by decide +kernel) (pa_cons (pe_lc (own := [("_law_k", 6)]) rfl nd (pi_range1 (by rfl) B.range_ (pa_cons (pe_callB k_len (by rfl) B.len_ (by decide +kernel) (pa_cons (pv 0) pa_nil)) pa_nil)) (blkOk_by (own := [("_law_k", 6)]) (by kernel_rfl)) (fun _ _ _ _ _ => (pg_name (i := 6) nd rfl (Or.inl rfl))) (fun _ _ _ _ _ => pts_nil) (fun _ _ _ _ _ => (pe_ifExp (pt_cmpR op_eq (pv 6) (pv 2) (nomark _)) (pe_callB (k_max rfl) (by rfl) B.max_ (by decide +kernel) (pa_cons (pv 4) pa_nil)) (pe_ix ix_seq (pv 1) (pv 6) (fun _ _ => rfl))))) pa_nil)))))))

section
variable {P : Program} {w : World} {K : PySem.W.Frag} {mg : Str → Option Value} {base : Heap}
/-! ### kept, by the law's own walks -/
theorem vt_ne {σ : L2.St} {H : Hp} {ta tb : TE} {i j : Nat} (ha : Va ta σ H (.int (i : Int))) (hb : Va tb σ H (.int (j : Int))) : Vt (tTest (tOp rNe ta tb)) σ H (!decide (i = j)) :=
  vt_is (vt_test (va_op ha hb vr_neI)) (by rw [show decide ((i : Int) = (j : Int)) = decide (i = j) by simp [Int.ofNat_inj]])
def spLKept (K : PySem.W.Frag) : Sp := fun vs H Q _ => ∃ (n : Nat) (a b : Addr) (g : Gr) (t : Nat → Int), vs = [.ref a, .ref b] ∧ TK K H n a b g t ∧ Ret (fun v _ => v = .bl true) H Q
theorem cal__law_kept (T : Txt K mg) : Cal P w K mg base 2 "_law_kept" ["_law_g", "_law_t"] (spLKept K) := by
  refine T._law_kept.cal sc__law_kept (fun vs H Q E h => ?_) (fun f cdv A outer s H vs Q E hr h => ⟨_, d__law_kept T.B (cal__law_walks T) hr, ?_⟩)
  · obtain ⟨n, a, b, g, t, rfl, _⟩ := h; rfl
  obtain ⟨n, a, b, g, t, rfl, hT, q⟩ := h
  have hn := hT.le
  unfold t__law_kept
  refine q_asgA (al_walks (z := none) hT (va_var rfl) (va_var rfl) (al_tup (vs := []) vs_nil)) fun v H1 S1 ⟨AA, ev, hA⟩ => ?_
  subst ev
  have hT1 := hT.mono S1
  refine q_forR (n := n) (vs_cons (va_cb (vs_cons (va_var rfl) vs_nil) (vc_lenTT hT1.tab)) vs_nil) (by omega) (fun x σ' H' => ∃ v3 v4, σ' = [some (.ref a), some (.ref b), some (.ref AA), v3, v4] ∧ H1 = H') ⟨none, none, rfl, rfl⟩ (fun x σ' H' hx ⟨v3, v4, es, eH⟩ => ?_) (fun σ' H' ⟨v3, v4, es, eH⟩ => ?_)
  · subst es eH
    refine st_forR (n := n) (vs_cons (va_cb (vs_cons (va_var rfl) vs_nil) (vc_lenTT hT1.tab)) vs_nil) (by omega) (fun y σ' H' => ∃ v4, σ' = [some (.ref a), some (.ref b), some (.ref AA), some (.int (x : Int)), v4] ∧ H1 = H') ⟨v4, rfl, rfl⟩ (fun y σ' H' hy ⟨v4, es, eH⟩ => ?_) (fun σ' H' ⟨v4, es, eH⟩ => ⟨_, v4, es, eH⟩)
    subst es eH
    by_cases hxy : x = y
    · exact st_ifF (vt_and0 (vt_is (vt_ne (va_var rfl) (va_var rfl)) (by rw [decide_eq_true hxy]; rfl))) ⟨_, rfl, rfl⟩
    have t1 : Vt (tTest (tOp rNe (tVar 3) (tVar 4))) [some (.ref a), some (.ref b), some (.ref AA), some (.int (x : Int)), some (.int (y : Int))] H1 true := vt_is (vt_ne (va_var rfl) (va_var rfl)) (by rw [decide_eq_false hxy]; rfl)
    cases cg : g x y with
    | none => exact st_ifF (vt_andT t1 (vt_and0 (vt_test (va_op (va_is (va_TT hT1.tab (va_var rfl) (va_var rfl) (va_var rfl) hx hy) (oV_none cg)) va_c vr_notNn)))) ⟨_, rfl, rfl⟩
    | some e =>
      rcases way_of (z := none) hT.kept hn hx hy with ⟨w1, w2⟩ | ⟨s, h, w1, w2, w3, _⟩
      · exact st_ifF (vt_andT t1 (vt_andT (vt_test (va_op (va_is (va_TT hT1.tab (va_var rfl) (va_var rfl) (va_var rfl) hx hy) (oV_some cg)) va_c vr_notNi)) (vt_test (va_op (va_is (va_LL hA (va_var rfl) (va_var rfl) (va_var rfl) hy hx) (oV_none w1)) va_c vr_notNn)))) ⟨_, rfl, rfl⟩
      · refine st_ifT (vt_andT t1 (vt_andT (vt_test (va_op (va_is (va_TT hT1.tab (va_var rfl) (va_var rfl) (va_var rfl) hx hy) (oV_some cg)) va_c vr_notNi)) (vt_test (va_op (va_is (va_LL hA (va_var rfl) (va_var rfl) (va_var rfl) hy hx) (oV_some w1)) va_c vr_notNi)))) ?_
        refine st_ifF (vt_is (vt_test (va_op (va_op (va_op (va_op (va_var rfl) (va_var rfl) (vr_xA hT1.wai hx)) (va_is (va_TT hT1.tab (va_var rfl) (va_var rfl) (va_var rfl) hx hy) (oV_some cg)) vr_sub) (va_op (va_is (va_LL hA (va_var rfl) (va_var rfl) (va_var rfl) hy hx) (oV_some w1)) va_c (vr_fdv (by constructor <;> omega))) vr_add) va_c vr_lt)) (decide_eq_false ?_)) ⟨_, rfl, rfl⟩
        rw [Way.div w3]
        have := entry_le hT.kept hx hy (Ne.symm hxy) cg w2
        omega
  · subst es eH
    exact st_ret va_c (q _ _ S1 rfl)
/-! ### one door lowered -/
def spLower (K : PySem.W.Frag) : Sp := fun vs H Q _ => ∃ (n : Nat) (a b : Addr) (g : Gr) (t : Nat → Int) (x : Nat), vs = [.ref a, .ref b, .int (x : Int)] ∧ TK K H n a b g t ∧ x < n ∧ Ret (IsNewT H (tabI n (up t x (needF n g t x)))) H Q
theorem cal__law_lower (T : Txt K mg) : Cal P w K mg base 2 "_law_lower" ["_law_g", "_law_t", "_law_x"] (spLower K) := by
  refine T._law_lower.cal sc__law_lower (fun vs H Q E h => ?_) (fun f cdv A outer s H vs Q E hr h => ⟨_, d__law_lower T.B (cal__law_walks T) hr, ?_⟩)
  · obtain ⟨n, a, b, g, t, x, rfl, _⟩ := h; rfl
  obtain ⟨n, a, b, g, t, x, rfl, hT, hx, q⟩ := h
  have hn := hT.le
  unfold t__law_lower
  refine q_asgA (al_walks (z := some x) hT (va_var rfl) (va_var rfl) (al_tup (vs := [.int (x : Int)]) (vs_cons (va_var rfl) vs_nil))) fun v H1 S1 ⟨AA, ev, hA⟩ => ?_
  subst ev
  refine q_asgA (al_lst (vs := [.int 0]) (vs_cons va_c vs_nil)) fun v H2 S2 ⟨N, ev, nN, hN⟩ => ?_
  subst ev
  have hT2 := (hT.mono S1).mono S2
  have nNH : H N = none := S1.none nN
  let S := bestS n (gn g t) x
  refine q_forR (n := n) (vs_cons (va_cb (vs_cons (va_var rfl) vs_nil) (vc_lenTT hT2.tab)) vs_nil) (by omega) (fun y σ' H' => ∃ v5, ∃ ns : List Int, σ' = [some (.ref a), some (.ref b), some (.int (x : Int)), some (.ref AA), some (.ref N), v5, none] ∧ Same H1 H' ∧ H' N = some (.lst (ns.map V.int)) ∧ ns.length ≤ y + 1 ∧ nfold g x S y ∈ ns ∧ ∀ v, v ∈ ns → v ≤ nfold g x S y)
    ⟨none, [0], rfl, S2, hN, Nat.le_refl _, List.mem_cons_self .., fun v hv => by rw [List.mem_singleton.mp hv]; exact Int.le_refl _⟩ (fun y σ' H' hy ⟨v5, ns, es, SH, e1, e2, e3, e4⟩ => ?_) (fun σ' H' ⟨v5, ns, es, SH, e1, e2, e3, e4⟩ => ?_)
  · subst es
    have hT' := (hT.mono S1).mono SH
    have hA' := SH.ll hA
    have en : nfold g x S (y + 1) = nstep g x S y (nfold g x S y) := rfl
    have stay : nstep g x S y (nfold g x S y) = nfold g x S y → ∃ v5, ∃ ns : List Int, [some (V.ref a), some (.ref b), some (.int (x : Int)), some (.ref AA), some (.ref N), some (.int (y : Int)), none] = [some (.ref a), some (.ref b), some (.int (x : Int)), some (.ref AA), some (.ref N), v5, none] ∧ Same H1 H' ∧ H' N = some (.lst (ns.map V.int)) ∧ ns.length ≤ y + 1 + 1 ∧ nfold g x S (y + 1) ∈ ns ∧ ∀ v, v ∈ ns → v ≤ nfold g x S (y + 1) := fun e => ⟨_, ns, rfl, SH, e1, by omega, by rw [en, e]; exact e3, by rw [en, e]; exact e4⟩
    by_cases hxy : y = x
    · exact st_ifF (vt_and0 (vt_is (vt_ne (va_var rfl) (va_var rfl)) (by rw [decide_eq_true hxy]; rfl))) (stay (if_pos hxy))
    have t1 : Vt (tTest (tOp rNe (tVar 5) (tVar 2))) [some (.ref a), some (.ref b), some (.int (x : Int)), some (.ref AA), some (.ref N), some (.int (y : Int)), none] H' true := vt_is (vt_ne (va_var rfl) (va_var rfl)) (by rw [decide_eq_false hxy]; rfl)
    cases cg : g x y with
    | none => exact st_ifF (vt_andT t1 (vt_and0 (vt_test (va_op (va_is (va_TT hT'.tab (va_var rfl) (va_var rfl) (va_var rfl) hx hy) (oV_none cg)) va_c vr_notNn)))) (stay (by unfold nstep; rw [if_neg hxy, cg]))
    | some e =>
      have wo := way_off hT.kept hx hy
      rcases way_of (z := some x) hT.kept hn hx hy with ⟨w1, w2⟩ | ⟨s, h, w1, w2, w3, _⟩
      · have w2 : S y = none := wo.symm.trans w2
        exact st_ifF (vt_andT t1 (vt_andT (vt_test (va_op (va_is (va_TT hT'.tab (va_var rfl) (va_var rfl) (va_var rfl) hx hy) (oV_some cg)) va_c vr_notNi)) (vt_test (va_op (va_is (va_LL hA' (va_var rfl) (va_var rfl) (va_var rfl) hy hx) (oV_none w1)) va_c vr_notNn)))) (stay (by unfold nstep; rw [if_neg hxy, cg, w2]))
      · have w2 : S y = some s := wo.symm.trans w2
        refine st_ifT (vt_andT t1 (vt_andT (vt_test (va_op (va_is (va_TT hT'.tab (va_var rfl) (va_var rfl) (va_var rfl) hx hy) (oV_some cg)) va_c vr_notNi)) (vt_test (va_op (va_is (va_LL hA' (va_var rfl) (va_var rfl) (va_var rfl) hy hx) (oV_some w1)) va_c vr_notNi)))) ?_
        refine st_app (va_var rfl) (va_op (va_is (va_TT hT'.tab (va_var rfl) (va_var rfl) (va_var rfl) hx hy) (oV_some cg)) (va_op (va_is (va_LL hA' (va_var rfl) (va_var rfl) (va_var rfl) hy hx) (oV_some w1)) va_c (vr_fdv (by constructor <;> omega))) vr_sub) e1 (by rw [List.length_map]; omega) ?_
        rw [Way.div w3]
        have es : nstep g x S y (nfold g x S y) = if e + s > nfold g x S y then e + s else nfold g x S y := by unfold nstep; rw [if_neg hxy, cg, w2]
        have ee : e - -s = e + s := by omega
        rw [ee]
        refine ⟨_, ns ++ [e + s], rfl, same_mut SH nN, by rw [upd_same, List.map_append]; rfl, by rw [List.length_append]; show ns.length + 1 ≤ _; omega, ?_, fun v hv => ?_⟩
        · rw [en, es]
          by_cases c : e + s > nfold g x S y
          · rw [if_pos c]; exact List.mem_append_right _ (List.mem_singleton.mpr rfl)
          · rw [if_neg c]; exact List.mem_append_left _ e3
        · rw [en, es]
          rcases List.mem_append.mp hv with hv | hv
          · have := e4 v hv
            split <;> omega
          · rw [List.mem_singleton.mp hv]
            split <;> omega
  · subst es
    have hT' := (hT.mono S1).mono SH
    have hmax : ∀ {σ : L2.St} {H3 : Hp}, Same H' H3 → σ[4]? = some (some (.ref N)) → Va (tCB (cMax K) (tCons (tVar 4) tNil)) σ H3 (.int (needF n g t x)) := fun S3 h4 => va_cb (vs_cons (va_var h4) vs_nil) fun Q2 q2 => ⟨N, ns, rfl, .inl (SqL.of (S3 _ _ e1)), List.length_pos_of_mem e3, fun m hm hle => by
      have a1 := e4 m hm
      have a2 := hle _ e3
      have : m = needF n g t x := by show m = nfold g x S n; omega
      rw [this]; exact q2⟩
    refine st_retA (al_tupN (al_lcV (fun k => .int (up t x (needF n g t x) k)) (src_R (n := n) (vs_cons (va_cb (vs_cons (va_var rfl) vs_nil) (vc_lenTT hT'.tab)) vs_nil) (by omega)) (fun _ => rfl) (by omega) fun k H3 hk S3 => al_va (va_if (b := decide (k = x)) (vt_is (vt_test (va_op (va_var rfl) (va_var rfl) vr_eqI)) (by simp [Int.ofNat_inj])) (fun hb => ?_) (fun hb => ?_)))) fun v H3 S3 ⟨p, e1', e2', e3'⟩ => q v H3 ((S1.trans SH).trans S3) ⟨p, e1', (S1.trans SH).none e2', e3'⟩
    · have hb := of_decide_eq_true hb
      exact va_is (hmax S3 rfl) (by rw [hb, up_same])
    · have hb := of_decide_eq_false hb
      exact va_is (va_op (va_var rfl) (va_var rfl) (vr_xA (SqA.mono hT'.wai S3) hk)) (by rw [up_ne hb])
end
end K45
set_option Elab.async false
set_option linter.all false
set_option maxRecDepth 100000
set_option maxHeartbeats 200000
namespace K45
open PySem PySem.Spec PyProof.Rows L2
abbrev s__law_ring : Stmt := topS 67
theorem sc__law_ring : FnScope ["_law_g", "_law_i", "_law_steps", "_law_k"] ["_law_g", "_law_i"] (defScope s__law_ring) := ⟨rfl, rfl, rfl, by decide +kernel, rfl, by decide +kernel, by decide +kernel⟩
def t__law_ring (K : PySem.W.Frag) (sp__law_ints : Sp) : TS := (tSeq (tIfS (tOr (tNot (tB (tCB (cIsi K) (tCons (tVar 1) (tCons (tC (.ty "tuple")) tNil))))) (tOr (tTest (tOp rLt (tCB (cLen K) (tCons (tVar 1) tNil)) (tC (.int 2)))) (tNot (tB (tCall sp__law_ints [] E0 (tCons (tVar 1) (tCons (tCB (cLen K) (tCons (tVar 1) tNil)) tNil))))))) (tRet (tC .non)) tNext)
    (tSeq (tIfS (tOr (tTest (tOp rGe (tCB (cMax K) (tCons (tVar 1) tNil)) (tCB (cLen K) (tCons (tVar 0) tNil)))) (tTest (tOp rNe (tLenSetT K (tVar 1)) (tCB (cLen K) (tCons (tVar 1) tNil))))) (tRet (tC .non)) tNext)
    (tSeq (tAsg (tLc (iRng1 (tCons (tCB (cLen K) (tCons (tVar 1) tNil)) tNil)) (gName 3) tYes (tOp (rIx K) (tOp (rIx K) (tVar 0) (tOp (rIx K) (tVar 1) (tVar 3))) (tOp (rIx K) (tVar 1) (tOp rMod (tOp rAdd (tVar 3) (tC (.int 1))) (tCB (cLen K) (tCons (tVar 1) tNil))))) [3]) (gName 2))
    (tSeq (tIfS (tTest (tOp (rIn K false) (tC .non) (tVar 2))) (tRet (tC .non)) tNext)
    (tRet (tCB (cSum K) (tCons (tVar 2) tNil)))))))
theorem d__law_ring {P : Program} {w : World} {K : PySem.W.Frag} {mg : Str → Option Value} {base : Heap} (B : Bif mg) {sp__law_ints : Sp} (c__law_ints : Cal P w K mg base 1 "_law_ints" ["_law_thing", "_law_b"] sp__law_ints) {f : Addr} {cdv : Value} {A : Around} {outer : List Env} {s : Shared} {H : Hp} {E : XK} (hr : Room 1 (A.deeper (envOfC "_law_ring" (defScope s__law_ring) s.heap.objs.size f cdv))) :
    PSs (cxOf CX0 P w K mg base ["_law_g", "_law_i", "_law_steps", "_law_k"] "_law_ring" (defScope s__law_ring) f cdv A outer s H E).nox (defBody s__law_ring) (t__law_ring K sp__law_ints) := by
  have nd := sc__law_ring.nd
  exact (pss_cons (ps_if (PW.pt (pw_or (pt_not (pt_val (pe_callB k_isi (by rfl) B.isinstance_ (by decide +kernel) (pa_cons (pv 1) (pa_cons (pe_bltn (v := .ty "tuple") (by rfl) B.tuple_ (by decide +kernel) rfl) pa_nil))))) (pw_or (pt_cmpR k_lt (pe_callB k_len (by rfl) B.len_ (by decide +kernel) (pa_cons (pv 1) pa_nil)) pe_int (nomark _)) (pw_or1 (pt_not (pt_val (pe_cal c__law_ints hr (by decide) (by rfl) (pa_cons (pv 1) (pa_cons (pe_callB k_len (by rfl) B.len_ (by decide +kernel) (pa_cons (pv 1) pa_nil)) pa_nil))))))))) (pss_one (ps_ret pe_non)) pss_nil)
      (pss_cons (ps_if (PW.pt (pw_or (pt_cmpR k_ge (pe_callB (k_max rfl) (by rfl) B.max_ (by decide +kernel) (pa_cons (pv 1) pa_nil)) (pe_callB k_len (by rfl) B.len_ (by decide +kernel) (pa_cons (pv 0) pa_nil)) (nomark _)) (pw_or1 (pt_cmpR op_ne (pe_lenSetT (by rfl) B.len_ (by rfl) B.set_ (pv 1)) (pe_callB k_len (by rfl) B.len_ (by decide +kernel) (pa_cons (pv 1) pa_nil)) (nomark _))))) (pss_one (ps_ret pe_non)) pss_nil)
      (pss_cons (ps_setLc (i := 2) (own := [("_law_k", 3)]) rfl nd rfl rfl (sw_true rfl rfl rfl (by decide +kernel)) (pi_range1 (by rfl) B.range_ (pa_cons (pe_callB k_len (by rfl) B.len_ (by decide +kernel) (pa_cons (pv 1) pa_nil)) pa_nil)) (blkOk_by (own := [("_law_k", 3)]) (by kernel_rfl)) (fun _ _ _ _ _ => (pg_name (i := 3) nd rfl (Or.inl rfl))) (fun _ _ _ _ _ => pts_nil) (fun _ _ _ _ _ => (pe_ix ix_seq (pe_ix ix_seq (pv 0) (pe_ix ix_seq (pv 1) (pv 3) (fun _ _ => rfl)) (fun _ _ => rfl)) (pe_ix ix_seq (pv 1) (pe_op k_mod (pe_op k_add (pv 3) pe_int) (pe_callB k_len (by rfl) B.len_ (by decide +kernel) (pa_cons (pv 1) pa_nil))) (fun _ _ => rfl)) (fun _ _ => rfl))))
      (pss_cons (ps_if (pt_cmpR op_in_seq pe_non (pv 2) (by rfl)) (pss_one (ps_ret pe_non)) pss_nil)
      (pss_one (ps_ret (pe_callB (k_sum rfl) (by rfl) B.sum_ (by decide +kernel) (pa_cons (pv 2) pa_nil))))))))

abbrev N__law_ring : List Str := ["_law_g", "_law_i", "_law_steps", "_law_k"]
abbrev P__law_ring : List Str := ["_law_g", "_law_i"]
section
variable {P : Program} {w : World} {K : PySem.W.Frag} {mg : Str → Option Value} {base : Heap}
theorem vr_inL {H : Hp} {x : V} {p : Addr} {xs : List V} {neg b : Bool} (h : SqL K H p xs) (fx : flatV x = true) (fs : xs.all flatV = true) (e : (if neg = true then !inV x xs else inV x xs) = b) : Vr (rIn K neg) x (.ref p) H (.bl b) := fun Q q => ⟨p, xs, rfl, .inl h, fx, fs, by rw [e]; exact q⟩
theorem tab_ints {p : Nat} {f : Nat → Int} : tab p (fun i => .int (f i)) = ((List.range p).map f).map V.int := by unfold tab; rw [List.map_map]; rfl
theorem range_sum {p : Nat} {f : Nat → Int} : ((List.range p).map f).sum = sumN p f := by
  induction p with
  | zero => rfl
  | succ p ih => rw [List.range_succ, List.map_append, List.sum_append, ih]; show sumN p f + (f p + 0) = sumN p f + f p; omega
theorem flat_tabI {p : Nat} {f : Nat → Int} : (tab p fun i => V.int (f i)).all flatV = true := by rw [tab_ints]; exact flat_ints _
theorem inV_ints {p : Nat} {f : Nat → Int} {x : Int} : inV (.int x) (tab p fun i => .int (f i)) = (List.range p).any fun i => decide (f i = x) := by
  unfold inV tab
  rw [List.any_map]
  refine congrArg (fun h => List.any (List.range p) h) (funext fun i => ?_)
  show (f i == x) = _
  rw [Bool.eq_iff_iff, beq_iff_eq, decide_eq_true_iff]
theorem inV_non {p : Nat} {f : Nat → Int} : inV .non (tab p fun i => .int (f i)) = false := by
  unfold inV tab
  rw [List.any_map, List.any_eq_false]
  intro i _ h
  cases h
/-- a ring, as the program gives it -/
structure RT (K : PySem.W.Frag) (H : Hp) (n : Nat) (g : Gr) (ra : Addr) (p : Nat) (c : Nat → Nat) : Prop where
  sq : SqT K H ra (tab p fun i => .int (c i : Nat))
  two : 2 ≤ p
  le : p ≤ 1000
  lt : ∀ i, i < p → c i < n
  inj : ∀ i j, i < p → j < p → c i = c j → i = j
  ent : ∀ i, i < p → ∃ e, g (c i) (c ((i + 1) % p)) = some e
theorem RT.mono {H H' : Hp} {n : Nat} {g : Gr} {ra : Addr} {p : Nat} {c : Nat → Nat} (h : RT K H n g ra p c) (S : Same H H') : RT K H' n g ra p c := ⟨S.t h.sq, h.two, h.le, h.lt, h.inj, h.ent⟩
def ents (g : Gr) (p : Nat) (c : Nat → Nat) : Int := sumN p fun i => (g (c i) (c ((i + 1) % p))).getD 0
def spRing (K : PySem.W.Frag) : Sp := fun vs H Q _ => ∃ (n : Nat) (a ra : Addr) (g : Gr) (p : Nat) (c : Nat → Nat), vs = [.ref a, .ref ra] ∧ TR K H a n n (oI g) ∧ RT K H n g ra p c ∧ Ret (fun v _ => v = .int (ents g p c)) H Q
theorem nodup_ring {p : Nat} {c : Nat → Nat} (inj : ∀ i j, i < p → j < p → c i = c j → i = j) : ((List.range p).map fun i => ((c i : Nat) : Int)).Nodup := by
  rw [List.nodup_iff_pairwise_ne, List.pairwise_map]
  refine List.Pairwise.imp_of_mem ?_ (List.nodup_range (n := p))
  intro i j hi hj hne e
  exact hne (inj i j (List.mem_range.mp hi) (List.mem_range.mp hj) (by omega))
theorem mod_int {k p : Nat} : ((k : Int) + 1) % (p : Int) = (((k + 1) % p : Nat) : Int) := by
  rw [show ((k : Int) + 1) = ((k + 1 : Nat) : Int) by omega]; exact (Int.natCast_emod _ _).symm
theorem max_ex {ns : List Int} (h : ns ≠ []) : ∃ m, m ∈ ns ∧ ∀ y, y ∈ ns → y ≤ m := by
  induction ns with
  | nil => exact absurd rfl h
  | cons x ns ih =>
    by_cases c : ns = []
    · subst c; exact ⟨x, List.mem_cons_self .., fun y hy => by rw [List.mem_singleton.mp hy]; exact Int.le_refl _⟩
    · obtain ⟨m, h1, h2⟩ := ih c
      by_cases d : x ≤ m
      · exact ⟨m, List.mem_cons_of_mem _ h1, fun y hy => (List.mem_cons.mp hy).elim (fun e => by rw [e]; exact d) (h2 y)⟩
      · exact ⟨x, List.mem_cons_self .., fun y hy => (List.mem_cons.mp hy).elim (fun e => by rw [e]; exact Int.le_refl _) fun e => by have := h2 y e; omega⟩
theorem rd__law_ring {vs : List V} {H : Hp} {Q : VK} {E : XK} (h : spRing K vs H Q E) : t__law_ring K (spInts K) { nx := fun _ H' => Q .non H', rt := Q } (start N__law_ring vs) H := by
  obtain ⟨n, a, ra, g, p, c, rfl, hT, hR, q⟩ := h
  have two := hR.two
  have hple := hR.le
  unfold t__law_ring
  refine q_ifFAn (at_is (at_orF (at_vt (vt_is (vt_not (vt_B (va_cb (vs_cons (va_var rfl) (vs_cons va_c vs_nil)) (vc_isi (.tup ra _ hR.sq))))) rfl)) fun H1 S1 => at_orF (at_vt (vt_is (vt_test (va_op (va_cb (vs_cons (va_var rfl) vs_nil) (vc_lenTt (S1.t hR.sq))) va_c vr_lt)) (decide_eq_false (by omega)))) fun H2 S2 => at_not (at_B (b := true) (al_call (P := fun v _ => v = .bl true) (vs_cons (va_var rfl) (vs_cons (va_cb (vs_cons (va_var rfl) vs_nil) (vc_lenTt ((S1.trans S2).t hR.sq))) vs_nil)) fun Q E r => ⟨p, ra, fun i => (c i : Nat), rfl, (S1.trans S2).t hR.sq, hple, fun i _ => Int.natCast_nonneg _, r⟩))) rfl) fun H1 S1 => ?_
  have hT1 := S1.tt hT
  have hR1 := hR.mono S1
  have hq := hR1.sq
  have hq2 : SqT K H1 ra (((List.range p).map fun i => ((c i : Nat) : Int)).map V.int) := by rw [← tab_ints]; exact hq
  obtain ⟨m0, hm0, hx0⟩ := max_ex (ns := (List.range p).map fun i => ((c i : Nat) : Int)) (by intro z; have := congrArg List.length z; simp at this; omega)
  have hlt0 : m0 < n := by
    obtain ⟨i, hi, e⟩ := List.mem_map.mp hm0
    have := hR.lt i (List.mem_range.mp hi)
    omega
  have vmax : Va (tCB (cMax K) (tCons (tVar 1) tNil)) [some (.ref a), some (.ref ra), none, none] H1 (.int m0) := va_cb (vs_cons (va_var rfl) vs_nil) fun Q2 q2 => ⟨ra, _, rfl, .inr hq2, by rw [List.length_map, List.length_range]; omega, fun m hm hle => by
    have e1 := hx0 m hm
    have e2 := hle m0 hm0
    rw [show m = m0 by omega]
    exact q2⟩
  have vset : Va (tLenSetT K (tVar 1)) [some (.ref a), some (.ref ra), none, none] H1 (.int (p : Int)) := fun Q2 q2 => va_var (v := .ref ra) rfl _ ⟨ra, _, rfl, hq2, nodup_ring hR.inj, by rw [List.length_map, List.length_range]; omega, by rw [List.length_map, List.length_range]; exact q2⟩
  refine q_ifFn (vt_orF (vt_is (vt_test (va_op vmax (va_cb (vs_cons (va_var rfl) vs_nil) (vc_lenTT hT1)) vr_ge)) (decide_eq_false (by omega))) (vt_is (vt_test (va_op vset (va_cb (vs_cons (va_var rfl) vs_nil) (vc_lenTt hq)) vr_neI)) (by simp))) ?_
  refine q_asgA (P := IsNewL H1 (tabI p fun i => (g (c i) (c ((i + 1) % p))).getD 0)) (al_lcV (fun i => .int ((g (c i) (c ((i + 1) % p))).getD 0)) (src_R (n := p) (vs_cons (va_cb (vs_cons (va_var rfl) vs_nil) (vc_lenTt hq)) vs_nil) (by omega)) (fun _ => rfl) (by omega) fun i H2 hi S2 => al_va ?_) fun v H2 S2 ⟨L, ev, _, hL⟩ => ?_
  · obtain ⟨e, he⟩ := hR.ent i hi
    have hq' := S2.t hq
    have hm : (i + 1) % p < p := Nat.mod_lt _ (by omega)
    refine va_is (va_TT (S2.tt hT1) (va_var rfl) (va_op (va_var rfl) (va_var rfl) (vr_xTt hq' hi)) (va_op (va_var rfl) (va_is (va_op (va_op (va_var rfl) va_c vr_add) (va_cb (vs_cons (va_var rfl) vs_nil) (vc_lenTt hq')) (vr_mod (by omega))) (congrArg V.int mod_int)) (vr_xTt hq' hm)) (hR.lt i hi) (hR.lt _ hm)) ?_
    show oV (g _ _) = _
    rw [he]; rfl
  subst ev
  refine q_ifFn (vt_test (va_op va_c (va_var rfl) (vr_inL (SqL.of hL) rfl flat_tabI inV_non))) ?_
  refine st_ret (v := .int (ents g p c)) (va_cb (vs_cons (va_var rfl) vs_nil) fun Q2 q2 => ⟨L, _, rfl, .inl (SqL.of (by rw [hL]; exact congrArg (fun l => some (HO.lst l)) tab_ints)), by rw [range_sum]; exact q2⟩) (q _ _ (S1.trans S2) rfl)
theorem len__law_ring {vs : List V} {H : Hp} {Q : VK} {E : XK} (h : spRing K vs H Q E) : vs.length = P__law_ring.length := by
  obtain ⟨n, a, ra, g, p, c, rfl, _⟩ := h; rfl
theorem cal__law_ring (T : Txt K mg) : Cal P w K mg base 2 "_law_ring" ["_law_g", "_law_i"] (spRing K) :=
  T._law_ring.cal sc__law_ring (fun vs H Q E h => len__law_ring h) (fun f cdv A outer s H vs Q E hr h => ⟨_, d__law_ring T.B (cal__law_ints T) hr, rd__law_ring h⟩)
end
end K45
set_option Elab.async false
set_option linter.all false
set_option maxRecDepth 100000
set_option maxHeartbeats 200000
namespace K45
open PySem PySem.Spec PyProof.Rows L2
abbrev s__law_bars : Stmt := topS 70
theorem sc__law_bars : FnScope ["_law_g", "_law_t", "_law_i", "_law_x", "_law_y", "_law_v", "_law_one"] ["_law_g", "_law_t", "_law_i", "_law_x", "_law_y"] (defScope s__law_bars) := ⟨rfl, rfl, rfl, by decide +kernel, rfl, by decide +kernel, by decide +kernel⟩
def t__law_bars (K : PySem.W.Frag) (sp__law_ring : Sp) : TS := (tSeq (tAsg (tCall sp__law_ring [] E0 (tCons (tVar 0) (tCons (tVar 2) tNil))) (gName 5))
    (tSeq (tIfS (tOr (tTest (tOp kIsN (tVar 5) (tC .non))) (tOr (tTest (tOp rLe (tVar 5) (tCB (cSum K) (tCons (tLc (iTup K (tVar 2)) (gName 6) tYes (tOp (rIx K) (tVar 1) (tVar 6)) [6]) tNil)))) (tTest (tOp (rIn K true) (tVar 3) (tVar 2))))) (tRet (tC (.bl false))) tNext)
    (tRet (tOp rEq (tOp (rIx K) (tVar 2) (tOp rMod (tOp rAdd (tTix (rTIndex K) (tVar 2) (tCons (tVar 3) tNil)) (tC (.int 1))) (tCB (cLen K) (tCons (tVar 2) tNil)))) (tVar 4)))))
theorem d__law_bars {P : Program} {w : World} {K : PySem.W.Frag} {mg : Str → Option Value} {base : Heap} (B : Bif mg) {sp__law_ring : Sp} (c__law_ring : Cal P w K mg base 2 "_law_ring" ["_law_g", "_law_i"] sp__law_ring) {f : Addr} {cdv : Value} {A : Around} {outer : List Env} {s : Shared} {H : Hp} {E : XK} (hr : Room 2 (A.deeper (envOfC "_law_bars" (defScope s__law_bars) s.heap.objs.size f cdv))) :
    PSs (cxOf CX0 P w K mg base ["_law_g", "_law_t", "_law_i", "_law_x", "_law_y", "_law_v", "_law_one"] "_law_bars" (defScope s__law_bars) f cdv A outer s H E).nox (defBody s__law_bars) (t__law_bars K sp__law_ring) := by
  have nd := sc__law_bars.nd
  exact (pss_cons (ps_set (i := 5) nd rfl (Or.inl rfl) (pe_cal c__law_ring hr (by decide) (by rfl) (pa_cons (pv 0) (pa_cons (pv 2) pa_nil))))
      (pss_cons (ps_if (PW.pt (pw_or (pt_cmpR k_isN (pv 5) pe_non (nomark _)) (pw_or (pt_cmpR k_le (pv 5) (pe_callB (k_sum rfl) (by rfl) B.sum_ (by decide +kernel) (pa_cons (pe_lc (own := [("_law_one", 6)]) rfl nd (pi_tup (pv 2)) (blkOk_by (own := [("_law_one", 6)]) (by kernel_rfl)) (fun _ _ _ _ _ => (pg_name (i := 6) nd rfl (Or.inl rfl))) (fun _ _ _ _ _ => pts_nil) (fun _ _ _ _ _ => (pe_ix ix_seq (pv 1) (pv 6) (fun _ _ => rfl)))) pa_nil)) (nomark _)) (pw_or1 (pt_cmpR op_notIn_seq (pv 3) (pv 2) (by rfl)))))) (pss_one (ps_ret pe_bl)) pss_nil)
      (pss_one (ps_ret (pe_cmpR op_eq (pe_ix ix_seq (pv 2) (pe_op k_mod (pe_op k_add (pe_tix PySem.F.plainAttrs_tuple PySem.F.slot_tuple_index PySem.F.type_tuple_index mt_tindex (pv 2) (pa_cons (pv 3) pa_nil)) pe_int) (pe_callB k_len (by rfl) B.len_ (by decide +kernel) (pa_cons (pv 2) pa_nil))) (fun _ _ => rfl)) (pv 4) (nomark _))))))

abbrev N__law_bars : List Str := ["_law_g", "_law_t", "_law_i", "_law_x", "_law_y", "_law_v", "_law_one"]
abbrev P__law_bars : List Str := ["_law_g", "_law_t", "_law_i", "_law_x", "_law_y"]
section
variable {P : Program} {w : World} {K : PySem.W.Frag} {mg : Str → Option Value} {base : Heap}
theorem RT.of {H : Hp} {n : Nat} {g : Gr} {t : Nat → Int} {ra : Addr} {p : Nat} {c : Nat → Nat} (hn : n ≤ 1000) (r : IsRing n (gn g t) p c) (h : SqT K H ra (tab p fun i => .int (c i : Nat))) : RT K H n g ra p c :=
  ⟨h, r.two, Nat.le_trans (ring_le r) hn, r.lt, r.inj, (ring_entries r).1⟩
theorem al_ring {σ : L2.St} {H : Hp} {n : Nat} {a ra : Addr} {g : Gr} {p : Nat} {c : Nat → Nat} {ta tb : TE} (hT : TR K H a n n (oI g)) (hR : RT K H n g ra p c) (ha : Va ta σ H (.ref a)) (hb : Va tb σ H (.ref ra)) : Al (tCall (spRing K) [] E0 (tCons ta (tCons tb tNil))) σ H (fun v _ => v = .int (ents g p c)) :=
  al_call (vs_cons ha (vs_cons hb vs_nil)) fun Q E q => ⟨n, a, ra, g, p, c, rfl, hT, hR, q⟩
theorem at_T {σ : L2.St} {H : Hp} {te : TE} {b : Bool} (h : Al te σ H (fun w _ => w = .bl b)) : At (tTest te) σ H b := fun Q q => h _ fun v H' S e => ⟨b, e, q H' S⟩
/-- sum([t[one] for one in ring]) -/
theorem al_waits {σ : L2.St} {H : Hp} {n : Nat} {g : Gr} {b ra : Addr} {t : Nat → Int} {p : Nat} {c : Nat → Nat} {ta tb : TE} {j : Nat} (hb : SqT K H b (tabI n t)) (hR : RT K H n g ra p c) (ha : Va ta σ H (.ref ra))
    (ht : ∀ i H1, i < p → Same H H1 → Va (tOp (rIx K) tb (tVar j)) ((wipe σ [j]).set j (some (.int (c i : Nat)))) H1 (.int (t (c i)))) (hw : ∀ i, wipe ((wipe σ [j]).set j (some (.int (c i : Nat)))) [j] = wipe σ [j]) :
    Al (tCB (cSum K) (tCons (tLc (iTup K ta) (gName j) tYes (tOp (rIx K) tb (tVar j)) [j]) tNil)) σ H (fun v _ => v = .int (sumN p fun i => t (c i))) :=
  al_cb1 (al_lcV (fun i => .int (t (c i))) (src_T (n := p) (f := fun i => .int (c i : Nat)) ha hR.sq) hw (by have := hR.le; omega) fun i H1 hi S1 => al_va (ht i H1 hi S1)) fun v H1 S1 ⟨L, ev, _, hL⟩ Q2 q2 => ⟨L, _, by rw [ev], .inl (SqL.of (by rw [hL]; exact congrArg (fun l => some (HO.lst l)) tab_ints)), by rw [range_sum]; exact q2 _ H1 (Same.refl _) rfl⟩
/-- a ring that gains, by the step from x to y -/
def spBars (K : PySem.W.Frag) : Sp := fun vs H Q _ => ∃ (n : Nat) (a b ra : Addr) (g : Gr) (t : Nat → Int) (p : Nat) (c : Nat → Nat) (i : Nat), vs = [.ref a, .ref b, .ref ra, .int (c i : Nat), .int (c ((i + 1) % p) : Nat)] ∧ TR K H a n n (oI g) ∧ SqT K H b (tabI n t) ∧ n ≤ 1000 ∧ PT H ra (tab p fun i => .int (c i : Nat)) ∧ IsRing n (gn g t) p c ∧ 0 < rsum (gn g t) p c ∧ i < p ∧
  Ret (fun v _ => v = .bl true) H Q
theorem rd__law_bars {vs : List V} {H : Hp} {Q : VK} {E : XK} (h : spBars K vs H Q E) : t__law_bars K (spRing K) { nx := fun _ H' => Q .non H', rt := Q } (start N__law_bars vs) H := by
  obtain ⟨n, a, b, ra, g, t, p, c, i, rfl, hT, hb, hn, hPT, hr, hpos, hi, q⟩ := h
  have hra : SqT K H ra (tab p fun i => .int (c i : Nat)) := hPT.sq
  have hR := RT.of hn hr hra
  have hple := hR.le
  have hsum := (ring_entries hr).2
  unfold t__law_bars
  refine q_asgA (al_ring hT hR (va_var rfl) (va_var rfl)) fun v H1 S1 ev => ?_
  subst ev
  have hR1 := hR.mono S1
  refine q_ifFAn (at_orF (at_vt (vt_test (va_op (va_var rfl) va_c vr_isNi))) fun H2 S2 => at_orF (at_T (b := false) (al_opR (P := fun v _ => v = .int (sumN p fun i => t (c i))) (va_var (v := .int (ents g p c)) rfl) ?_ fun v H3 S3 ev => ⟨.bl (decide (ents g p c ≤ sumN p fun i => t (c i))), by rw [ev]; exact vr_le, ?_⟩)) fun H3 S3 => at_vt (vt_test (va_op (va_var rfl) (va_var rfl) (vr_inT (((S1.trans S2).trans S3).t hra) rfl flat_tabI ?_)))) fun H2 S2 => ?_
  · exact al_waits (n := n) (b := b) (t := t) (j := 6) ((S1.trans S2).t hb) (hR1.mono S2) (va_var rfl) (fun k H3 hk S3 => va_op (va_var rfl) (va_var rfl) (vr_xTt (((S1.trans S2).trans S3).t hb) (hR.lt k hk))) (fun _ => rfl)
  · have hsum' : rsum (gn g t) p c = ents g p c - sumN p (fun i => t (c i)) := hsum
    rw [decide_eq_false (by omega)]
  · rw [if_pos rfl, inV_ints]
    have : ((List.range p).any fun j => decide (((c j : Nat) : Int) = ((c i : Nat) : Int))) = true := List.any_eq_true.mpr ⟨i, List.mem_range.mpr hi, decide_eq_true rfl⟩
    rw [this]; rfl
  · have hq := (S1.trans S2).t hra
    have hq2 : SqT K H2 ra (((List.range p).map fun i => ((c i : Nat) : Int)).map V.int) := by rw [← tab_ints]; exact hq
    have vix : Va (tTix (rTIndex K) (tVar 2) (tCons (tVar 3) tNil)) [some (.ref a), some (.ref b), some (.ref ra), some (.int (c i : Nat)), some (.int (c ((i + 1) % p) : Nat)), some (.int (ents g p c)), none] H2 (.int (i : Nat)) := fun Q2 q2 => va_var (v := .ref ra) rfl _ ⟨⟨ra, _, rfl, hPT.same (S1.trans S2)⟩, vs_cons (va_var (v := .int (c i : Nat)) rfl) vs_nil _ ⟨ra, _, _, i, rfl, rfl, hq2, by rw [List.getElem?_map, List.getElem?_range hi]; rfl, fun m hm e => by
      rw [List.getElem?_map, List.getElem?_range (by omega)] at e
      have e : ((c m : Nat) : Int) = (c i : Nat) := Option.some.inj e
      have := hR.inj m i (by omega) hi (by omega)
      omega, q2⟩⟩
    have hm : (i + 1) % p < p := Nat.mod_lt _ (by omega)
    refine st_ret (va_is (va_op (va_op (va_var rfl) (va_is (va_op (va_op vix va_c vr_add) (va_cb (vs_cons (va_var rfl) vs_nil) (vc_lenTt hq)) (vr_mod (by have := hR.two; omega))) (congrArg V.int mod_int)) (vr_xTt hq hm)) (va_var rfl) vr_eqI) (by rw [decide_eq_true rfl])) (q _ _ (S1.trans S2) rfl)
theorem len__law_bars {vs : List V} {H : Hp} {Q : VK} {E : XK} (h : spBars K vs H Q E) : vs.length = P__law_bars.length := by
  obtain ⟨n, a, b, ra, g, t, p, c, i, rfl, _⟩ := h; rfl
theorem cal__law_bars (T : Txt K mg) : Cal P w K mg base 3 "_law_bars" ["_law_g", "_law_t", "_law_i", "_law_x", "_law_y"] (spBars K) :=
  T._law_bars.cal sc__law_bars (fun vs H Q E h => len__law_bars h) (fun f cdv A outer s H vs Q E hr h => ⟨_, d__law_bars T.B (cal__law_ring T) hr, rd__law_bars h⟩)
end
end K45
set_option Elab.async false
set_option linter.all false
set_option maxRecDepth 100000
set_option maxHeartbeats 200000
namespace K45
open PySem PySem.Spec PyProof.Rows L2
abbrev s__law_loose : Stmt := topS 68
theorem sc__law_loose : FnScope ["_law_row", "_law_rests", "_law_k"] ["_law_row", "_law_rests"] (defScope s__law_loose) := ⟨rfl, rfl, rfl, by decide +kernel, rfl, by decide +kernel, by decide +kernel⟩
def t__law_loose (K : PySem.W.Frag) : TS := (tRet (tOp rEq (tCB (cLen K) (tCons (tLc (iZip1 K (tCons (tVar 0) (tCons (tVar 1) tNil))) (gName 2) (tAnd (tTest (tOp rEq (tOp (rIx K) (tVar 2) (tC (.int 0))) (tOp (rIx K) (tVar 2) (tC (.int 1))))) (tTest (tOp kNotN (tOp (rIx K) (tVar 2) (tC (.int 0))) (tC .non)))) (tVar 2) [2]) tNil)) (tC (.int 1))))
theorem d__law_loose {P : Program} {w : World} {K : PySem.W.Frag} {mg : Str → Option Value} {base : Heap} (B : Bif mg)  {f : Addr} {cdv : Value} {A : Around} {outer : List Env} {s : Shared} {H : Hp} {E : XK} (hr : Room 0 (A.deeper (envOfC "_law_loose" (defScope s__law_loose) s.heap.objs.size f cdv))) :
    PSs (cxOf CX0 P w K mg base ["_law_row", "_law_rests", "_law_k"] "_law_loose" (defScope s__law_loose) f cdv A outer s H E).nox (defBody s__law_loose) (t__law_loose K ) := by
  have nd := sc__law_loose.nd
  exact (pss_one (ps_ret (pe_cmpR op_eq (pe_callB k_len (by rfl) B.len_ (by decide +kernel) (pa_cons (pe_lc (own := [("_law_k", 2)]) rfl nd (pi_zip1 (by rfl) B.zip_ (pa_cons (pv 0) (pa_cons (pv 1) pa_nil))) (blkOk_by (own := [("_law_k", 2)]) (by kernel_rfl)) (fun _ _ _ _ _ => (pg_name (i := 2) nd rfl (Or.inl rfl))) (fun _ _ _ _ _ => (pts_one (PW.pt (pw_and (pt_cmpR op_eq (pe_ix ix_seq (pv 2) pe_int (fun _ _ => rfl)) (pe_ix ix_seq (pv 2) pe_int (fun _ _ => rfl)) (nomark _)) (pw_and1 (pt_cmpR k_notN (pe_ix ix_seq (pv 2) pe_int (fun _ _ => rfl)) pe_non (nomark _))))))) (fun _ _ _ _ _ => (pv 2))) pa_nil)) pe_int (nomark _))))

section
variable {P : Program} {w : World} {K : PySem.W.Frag} {mg : Str → Option Value} {base : Heap}
theorem wipe1 {σ : L2.St} {j : Nat} {v : Option V} : wipe ((wipe σ [j]).set j v) [j] = wipe σ [j] := by
  apply List.ext_getElem?
  intro k
  rw [wipe_get, wipe_get]
  by_cases e : j = k
  · subst e
    rw [if_pos (List.mem_singleton.mpr rfl), if_pos (List.mem_singleton.mpr rfl)]
    by_cases hl : j < σ.length
    · rw [List.getElem?_set_self (by rw [wipe_length]; exact hl), List.getElem?_eq_getElem hl]; rfl
    · rw [List.getElem?_eq_none (by rw [List.length_set, wipe_length]; omega), List.getElem?_eq_none (by omega)]
  · have e2 : k ∉ [j] := fun z => e (List.mem_singleton.mp z).symm
    rw [if_neg e2, if_neg e2, List.getElem?_set_ne e, wipe_get, if_neg e2]
def cnt1 (bb : Nat → Bool) : Nat → Nat
  | 0 => 0
  | n + 1 => cnt1 bb n + if bb n then 1 else 0
theorem cnt1_le (bb : Nat → Bool) : ∀ n, cnt1 bb n ≤ n
  | 0 => Nat.le_refl 0
  | n + 1 => by
    have := cnt1_le bb n
    show cnt1 bb n + _ ≤ n + 1
    split <;> omega
theorem cnt1_zero {bb : Nat → Bool} : ∀ {n}, cnt1 bb n = 0 ↔ ∀ k, k < n → bb k = false
  | 0 => ⟨fun _ k hk => absurd hk (Nat.not_lt_zero k), fun _ => rfl⟩
  | n + 1 => by
    show cnt1 bb n + _ = 0 ↔ _
    constructor
    · intro h k hk
      have h1 : cnt1 bb n = 0 := by omega
      by_cases c : k = n
      · subst c
        cases e : bb k with
        | false => rfl
        | true => rw [e, if_pos rfl] at h; omega
      · exact cnt1_zero.mp h1 k (by omega)
    · intro h
      rw [cnt1_zero.mpr fun k hk => h k (by omega), h n (Nat.lt_succ_self n)]; rfl
theorem cnt1_one {bb : Nat → Bool} {z : Nat} (hz : bb z = true) : ∀ {n}, z < n → (cnt1 bb n = 1 ↔ ∀ k, k < n → k ≠ z → bb k = false)
  | 0, h => absurd h (Nat.not_lt_zero z)
  | n + 1, h => by
    show cnt1 bb n + _ = 1 ↔ _
    by_cases c : z = n
    · subst c
      rw [hz, if_pos rfl]
      constructor
      · intro e k hk hkz
        exact cnt1_zero.mp (show cnt1 bb z = 0 by omega) k (by omega)
      · intro q
        rw [cnt1_zero.mpr fun k hk => q k (by omega) (by omega)]
    · have ih := cnt1_one hz (n := n) (by omega)
      have pos : 1 ≤ cnt1 bb n := by
        refine Classical.byContradiction fun q => ?_
        have := cnt1_zero.mp (show cnt1 bb n = 0 by omega) z (by omega)
        rw [hz] at this; cases this
      constructor
      · intro e k hk hkz
        by_cases d : k = n
        · subst d
          cases e2 : bb k with
          | false => rfl
          | true => rw [e2, if_pos rfl] at e; omega
        · exact ih.mp (by omega) k (by omega) hkz
      · intro q
        rw [ih.mpr fun k hk hkz => q k (by omega) hkz, q n (Nat.lt_succ_self n) (by omega)]; rfl
/-- the pairs of two tuples that pass a test, counted -/
theorem al_zip1 {σ : L2.St} {H : Hp} {ta tb : TE} {a b : Addr} {n j : Nat} {f h : Nat → V} {tt : TT} {bb : Nat → Bool} (hn : n ≤ 1000) (hj : j < σ.length) (ha : Va ta σ H (.ref a)) (hb : Va tb σ H (.ref b)) (h1 : SqT K H a (tab n f)) (h2 : SqT K H b (tab n h))
    (ht : ∀ i T H1, i < n → Same H H1 → SqT K H1 T [f i, h i] → At tt ((wipe σ [j]).set j (some (.ref T))) H1 (bb i)) :
    Al (tLc (iZip1 K (tCons ta (tCons tb tNil))) (gName j) tt (tVar j) [j]) σ H (fun v H' => ∃ p xs, v = .ref p ∧ H' p = some (.lst xs) ∧ xs.length = cnt1 bb n) := fun Q q => by
  unfold tLc iZip1
  refine ha _ (hb _ ⟨a, b, _, _, rfl, h1, h2, fun D hD => ?_⟩)
  refine ⟨fun i m H' => m = n - i ∧ i ≤ n ∧ ∃ xs, Same H H' ∧ H' D = some (.lst xs) ∧ xs.length = cnt1 bb i, ⟨n, rfl, Nat.zero_le n, [], same_new hD, upd_same, rfl⟩, ?_⟩
  rintro i m H' ⟨rfl, hi, xs, SH, eD, hl⟩
  by_cases hlt : i < n
  · refine .inr ⟨⟨_, _, _, _, SH.t h1, SH.t h2, tab_get hlt, tab_get hlt⟩, fun H'' => i + 1 ≤ n ∧ ∃ xs, Same H H'' ∧ H'' D = some (.lst xs) ∧ xs.length = cnt1 bb (i + 1), fun H'' p' => ⟨n - (i + 1), by omega, rfl, p'⟩, fun x H2 y => ?_⟩
    obtain ⟨T, u, v, rfl, hT, rfl, e1, e2⟩ := y
    have e1 := e1 _ (SH.t h1)
    have e2 := e2 _ (SH.t h2)
    rw [tab_get hlt] at e1 e2
    cases e1
    cases e2
    have S2 := SH.trans (same_new (o := .tup [f i, h i]) hT)
    have eD2 : upd H' T (.tup [f i, h i]) D = some (.lst xs) := same_new hT _ _ eD
    refine ⟨wipe1, ht i T _ hlt S2 (SqT.of upd_same) _ fun H4 S4 => ?_⟩
    have cs : cnt1 bb (i + 1) = cnt1 bb i + if bb i then 1 else 0 := rfl
    cases hbb : bb i with
    | true =>
      refine iteT ⟨.ref T, by rw [List.getElem?_set_self (by rw [wipe_length]; exact hj)], xs, S4 _ _ eD2, small_lt (by have := cnt1_le bb i; omega), hlt, _, same_mut (S2.trans S4) hD, upd_same, ?_⟩
      rw [List.length_append, hl, cs, hbb]; rfl
    | false => exact iteF ⟨hlt, xs, S2.trans S4, S4 _ _ eD2, by rw [hl, cs, hbb]; rfl⟩
  · have e : i = n := by omega
    subst e
    exact .inl ⟨⟨_, SH.t h1, tab_len ..⟩, q _ _ SH ⟨D, xs, rfl, eD, hl⟩⟩
def spLoose (K : PySem.W.Frag) : Sp := fun vs H Q _ => ∃ (n : Nat) (a b : Addr) (f h : Nat → Option Int) (z : Nat), vs = [.ref a, .ref b] ∧ SqT K H a (tab n fun i => oV (f i)) ∧ SqT K H b (tab n fun i => oV (h i)) ∧ n ≤ 1000 ∧ z < n ∧ f z = some 0 ∧ h z = some 0 ∧
  Ret (IsB (∀ k, k < n → k ≠ z → ¬ (f k = h k ∧ f k ≠ none))) H Q
theorem oV_inj {a b : Option Int} : oV a = oV b ↔ a = b := by
  cases a <;> cases b <;> simp [oV]
theorem oV_scal (a b : Option Int) : scal (oV a) (oV b) = true := by cases a <;> cases b <;> rfl
theorem cal__law_loose (T : Txt K mg) : Cal P w K mg base 1 "_law_loose" ["_law_row", "_law_rests"] (spLoose K) := by
  refine T._law_loose.cal sc__law_loose (fun vs H Q E h => ?_) (fun fa cdv A outer s H vs Q E hr h => ⟨_, d__law_loose T.B hr, ?_⟩)
  · obtain ⟨n, a, b, f, h, z, rfl, _⟩ := h; rfl
  obtain ⟨n, a, b, f, h, z, rfl, h1, h2, hn, hz, hfz, hhz, q⟩ := h
  unfold t__law_loose
  let bb : Nat → Bool := fun i => decide (f i = h i) && !decide (f i = none)
  refine st_retA (P := fun v _ => v = .bl (decide ((cnt1 bb n : Int) = 1))) (al_opc (P := fun v _ => v = .int (cnt1 bb n : Nat)) (al_cb1 (al_zip1 (n := n) (j := 2) (f := fun i => oV (f i)) (h := fun i => oV (h i)) (bb := bb) hn (by show 2 < 3; omega) (va_var rfl) (va_var rfl) h1 h2 fun i T H1 hi S1 hT => at_vt ?_) fun v H1 S1 ⟨p, xs, ev, hp, hl⟩ Q2 q2 => ⟨p, xs, by rw [ev], .inl (SqL.of hp), q2 _ H1 (Same.refl _) (by rw [hl])⟩) fun v H1 S1 ev => ⟨_, by rw [ev]; exact vr_eqI, rfl⟩) fun v H1 S1 ev => q v H1 S1 ⟨_, ev, ?_⟩
  · have v0 : ∀ (σ : L2.St), σ[2]? = some (some (V.ref T)) → Va (tOp (rIx K) (tVar 2) (tC (.int 0))) σ H1 (oV (f i)) := fun σ h2 => va_op (va_var h2) va_c (vr_xT hT rfl)
    have v1 : ∀ (σ : L2.St), σ[2]? = some (some (V.ref T)) → Va (tOp (rIx K) (tVar 2) (tC (.int 1))) σ H1 (oV (h i)) := fun σ h2 => va_op (va_var h2) va_c (vr_xT hT rfl)
    refine vt_and (a := decide (f i = h i)) (vt_is (vt_test (va_op (v0 _ rfl) (v1 _ rfl) (vr_eq (oV_scal _ _)))) ?_) fun _ => vt_is (vt_test (va_op (v0 _ rfl) va_c vr_notN)) ?_
    · simp [oV_inj]
    · have : decide (oV (f i) = .non) = decide (f i = none) := by
        rw [Bool.eq_iff_iff, decide_eq_true_iff, decide_eq_true_iff]
        exact oV_inj (b := none)
      rw [this]
  · rw [decide_eq_true_iff]
    have hbz : bb z = true := by show (decide (f z = h z) && !decide (f z = none)) = true; rw [hfz, hhz]; rfl
    have c := cnt1_one hbz hz
    rw [show ((cnt1 bb n : Int) = 1) ↔ cnt1 bb n = 1 by omega, c]
    constructor
    · intro q k hk hkz ⟨e1, e2⟩
      have e3 : (decide (f k = h k) && !decide (f k = none)) = false := q k hk hkz
      rw [decide_eq_true e1, decide_eq_false e2] at e3
      cases e3
    · intro q k hk hkz
      show (decide (f k = h k) && !decide (f k = none)) = false
      by_cases e1 : f k = h k
      · by_cases e2 : f k = none
        · rw [decide_eq_true e2]; simp
        · exact absurd ⟨e1, e2⟩ (q k hk hkz)
      · rw [decide_eq_false e1]; rfl
end
end K45
set_option Elab.async false
set_option linter.all false
set_option maxRecDepth 100000
set_option maxHeartbeats 200000
namespace K45
open PySem PySem.Spec PyProof.Rows L2
abbrev s__law_tight : Stmt := topS 69
theorem sc__law_tight : FnScope ["_law_g", "_law_t", "_law_rooms_here", "_law_door", "_law_i", "_law_v", "_law_x"] ["_law_g", "_law_t", "_law_rooms_here", "_law_door"] (defScope s__law_tight) := ⟨rfl, rfl, rfl, by decide +kernel, rfl, by decide +kernel, by decide +kernel⟩
def t__law_tight (K : PySem.W.Frag) (sp_tight_ring sp__law_loose sp__law_ring : Sp) : TS := (tSeq (tAsg (tCall sp_tight_ring [] E0 (tCons (tVar 0) (tCons (tVar 1) (tCons (tVar 3) tNil)))) (gName 4))
    (tSeq (tIfS (tB (tCall sp__law_loose [] E0 (tCons (tOp (rIx K) (tVar 0) (tVar 3)) (tCons (tOp (rIx K) (tVar 2) (tVar 3)) tNil)))) (tRet (tOp kIsN (tVar 4) (tC .non))) tNext)
    (tSeq (tAsg (tCall sp__law_ring [] E0 (tCons (tVar 0) (tCons (tVar 4) tNil))) (gName 5))
    (tRet (tAndV (tOp kNotN (tVar 5) (tC .non)) (tAndV (tOp (rIn K false) (tVar 3) (tVar 4)) (tOp rEq (tVar 5) (tCB (cSum K) (tCons (tLc (iTup K (tVar 4)) (gName 6) tYes (tOp (rIx K) (tVar 1) (tVar 6)) [6]) tNil)))))))))
theorem d__law_tight {P : Program} {w : World} {K : PySem.W.Frag} {mg : Str → Option Value} {base : Heap} (B : Bif mg) {sp_tight_ring sp__law_loose sp__law_ring : Sp} (c_tight_ring : Cal P w K mg base 5 "tight_ring" ["table", "waits", "door"] sp_tight_ring) (c__law_loose : Cal P w K mg base 1 "_law_loose" ["_law_row", "_law_rests"] sp__law_loose) (c__law_ring : Cal P w K mg base 2 "_law_ring" ["_law_g", "_law_i"] sp__law_ring) {f : Addr} {cdv : Value} {A : Around} {outer : List Env} {s : Shared} {H : Hp} {E : XK} (hr : Room 5 (A.deeper (envOfC "_law_tight" (defScope s__law_tight) s.heap.objs.size f cdv))) :
    PSs (cxOf CX0 P w K mg base ["_law_g", "_law_t", "_law_rooms_here", "_law_door", "_law_i", "_law_v", "_law_x"] "_law_tight" (defScope s__law_tight) f cdv A outer s H E).nox (defBody s__law_tight) (t__law_tight K sp_tight_ring sp__law_loose sp__law_ring) := by
  have nd := sc__law_tight.nd
  exact (pss_cons (ps_set (i := 4) nd rfl (Or.inl rfl) (pe_cal c_tight_ring hr (by decide) (by rfl) (pa_cons (pv 0) (pa_cons (pv 1) (pa_cons (pv 3) pa_nil)))))
      (pss_cons (ps_if (pt_val (pe_cal c__law_loose hr (by decide) (by rfl) (pa_cons (pe_ix ix_seq (pv 0) (pv 3) (fun _ _ => rfl)) (pa_cons (pe_ix ix_seq (pv 2) (pv 3) (fun _ _ => rfl)) pa_nil)))) (pss_one (ps_ret (pe_cmpR k_isN (pv 4) pe_non (nomark _)))) pss_nil)
      (pss_cons (ps_set (i := 5) nd rfl (Or.inl rfl) (pe_cal c__law_ring hr (by decide) (by rfl) (pa_cons (pv 0) (pa_cons (pv 4) pa_nil))))
      (pss_one (ps_ret (pe_and (pe_cmpR k_notN (pv 5) pe_non (nomark _)) (pe_and (pe_cmpR op_in_seq (pv 3) (pv 4) (by rfl)) (pe_one (pe_cmpR op_eq (pv 5) (pe_callB (k_sum rfl) (by rfl) B.sum_ (by decide +kernel) (pa_cons (pe_lc (own := [("_law_x", 6)]) rfl nd (pi_tup (pv 4)) (blkOk_by (own := [("_law_x", 6)]) (by kernel_rfl)) (fun _ _ _ _ _ => (pg_name (i := 6) nd rfl (Or.inl rfl))) (fun _ _ _ _ _ => pts_nil) (fun _ _ _ _ _ => (pe_ix ix_seq (pv 1) (pv 6) (fun _ _ => rfl)))) pa_nil)) (nomark _))))))))))

abbrev s__law_rest : Stmt := topS 71
theorem sc__law_rest : FnScope ["_law_g", "_law_t", "_law_x", "_law_y", "_law_z", "_law_room", "_law_a"] ["_law_g", "_law_t", "_law_x", "_law_y", "_law_z", "_law_room"] (defScope s__law_rest) := ⟨rfl, rfl, rfl, by decide +kernel, rfl, by decide +kernel, by decide +kernel⟩
def t__law_rest (K : PySem.W.Frag) (sp__law_walks : Sp) : TS := (tSeq (tIfS (tOr (tTest (tOp rEq (tVar 4) (tVar 2))) (tTest (tOp rEq (tVar 4) (tVar 3)))) (tRet (tOp rAdd (tOp (rIx K) (tVar 1) (tVar 4)) (tC (.int 1)))) tNext)
    (tSeq (tAsg (tCall sp__law_walks [] E0 (tCons (tVar 0) (tCons (tVar 1) (tCons (tTup (tCons (tVar 4) tNil)) tNil)))) (gName 6))
    (tSeq (tIfS (tAnd (tTest (tOp kNotN (tOp (rIx K) (tOp (rIx K) (tVar 6) (tVar 3)) (tVar 2)) (tC .non))) (tTest (tOp rEq (tOp rAdd (tOp (rIx K) (tVar 1) (tVar 2)) (tOp rFdv (tOp (rIx K) (tOp (rIx K) (tVar 6) (tVar 3)) (tVar 2)) (tC (.int 64)))) (tVar 5)))) (tRet (tC .non)) tNext)
    (tRet (tOp rAdd (tOp (rIx K) (tVar 1) (tVar 4)) (tC (.int 1)))))))
theorem d__law_rest {P : Program} {w : World} {K : PySem.W.Frag} {mg : Str → Option Value} {base : Heap} (B : Bif mg) {sp__law_walks : Sp} (c__law_walks : Cal P w K mg base 1 "_law_walks" ["_law_g", "_law_t", "_law_without"] sp__law_walks) {f : Addr} {cdv : Value} {A : Around} {outer : List Env} {s : Shared} {H : Hp} {E : XK} (hr : Room 1 (A.deeper (envOfC "_law_rest" (defScope s__law_rest) s.heap.objs.size f cdv))) :
    PSs (cxOf CX0 P w K mg base ["_law_g", "_law_t", "_law_x", "_law_y", "_law_z", "_law_room", "_law_a"] "_law_rest" (defScope s__law_rest) f cdv A outer s H E).nox (defBody s__law_rest) (t__law_rest K sp__law_walks) := by
  have nd := sc__law_rest.nd
  exact (pss_cons (ps_if (PW.pt (pw_or (pt_cmpR op_eq (pv 4) (pv 2) (nomark _)) (pw_or1 (pt_cmpR op_eq (pv 4) (pv 3) (nomark _))))) (pss_one (ps_ret (pe_op k_add (pe_ix ix_seq (pv 1) (pv 4) (fun _ _ => rfl)) pe_int))) pss_nil)
      (pss_cons (ps_set (i := 6) nd rfl (Or.inl rfl) (pe_cal c__law_walks hr (by decide) (by rfl) (pa_cons (pv 0) (pa_cons (pv 1) (pa_cons (pe_tup (pa_cons (pv 4) pa_nil)) pa_nil)))))
      (pss_cons (ps_if (PW.pt (pw_and (pt_cmpR k_notN (pe_ix ix_seq (pe_ix ix_seq (pv 6) (pv 3) (fun _ _ => rfl)) (pv 2) (fun _ _ => rfl)) pe_non (nomark _)) (pw_and1 (pt_cmpR op_eq (pe_op k_add (pe_ix ix_seq (pv 1) (pv 2) (fun _ _ => rfl)) (pe_op k_fdv (pe_ix ix_seq (pe_ix ix_seq (pv 6) (pv 3) (fun _ _ => rfl)) (pv 2) (fun _ _ => rfl)) pe_int)) (pv 5) (nomark _))))) (pss_one (ps_ret pe_non)) pss_nil)
      (pss_one (ps_ret (pe_op k_add (pe_ix ix_seq (pv 1) (pv 4) (fun _ _ => rfl)) pe_int))))))

abbrev s__law_is_bare : Stmt := topS 78
theorem sc__law_is_bare : FnScope ["_law_g", "_law_t", "_law_rooms_here", "_law_x"] ["_law_g", "_law_t", "_law_rooms_here"] (defScope s__law_is_bare) := ⟨rfl, rfl, rfl, by decide +kernel, rfl, by decide +kernel, by decide +kernel⟩
def t__law_is_bare (K : PySem.W.Frag) (sp__law_loose : Sp) : TS := (tSeq (tFor (iRng1 (tCons (tCB (cLen K) (tCons (tVar 0) tNil)) tNil)) (gName 3) (tIfS (tAnd (tTest (tOp rGt (tOp (rIx K) (tVar 1) (tVar 3)) (tC (.int 0)))) (tB (tCall sp__law_loose [] E0 (tCons (tOp (rIx K) (tVar 0) (tVar 3)) (tCons (tOp (rIx K) (tVar 2) (tVar 3)) tNil))))) (tRet (tC (.bl false))) tNext))
    (tRet (tC (.bl true))))
theorem d__law_is_bare {P : Program} {w : World} {K : PySem.W.Frag} {mg : Str → Option Value} {base : Heap} (B : Bif mg) {sp__law_loose : Sp} (c__law_loose : Cal P w K mg base 1 "_law_loose" ["_law_row", "_law_rests"] sp__law_loose) {f : Addr} {cdv : Value} {A : Around} {outer : List Env} {s : Shared} {H : Hp} {E : XK} (hr : Room 1 (A.deeper (envOfC "_law_is_bare" (defScope s__law_is_bare) s.heap.objs.size f cdv))) :
    PSs (cxOf CX0 P w K mg base ["_law_g", "_law_t", "_law_rooms_here", "_law_x"] "_law_is_bare" (defScope s__law_is_bare) f cdv A outer s H E).nox (defBody s__law_is_bare) (t__law_is_bare K sp__law_loose) := by
  have nd := sc__law_is_bare.nd
  exact (pss_cons (ps_for PassesOwn.never rfl (pi_range1 (by rfl) B.range_ (pa_cons (pe_callB k_len (by rfl) B.len_ (by decide +kernel) (pa_cons (pv 0) pa_nil)) pa_nil)) (pg_name (i := 3) nd rfl (Or.inl rfl)) (pss_one (ps_if (PW.pt (pw_and (pt_cmpR k_gt (pe_ix ix_seq (pv 1) (pv 3) (fun _ _ => rfl)) pe_int (nomark _)) (pw_and1 (pt_val (pe_cal c__law_loose hr (by decide) (by rfl) (pa_cons (pe_ix ix_seq (pv 0) (pv 3) (fun _ _ => rfl)) (pa_cons (pe_ix ix_seq (pv 2) (pv 3) (fun _ _ => rfl)) pa_nil))))))) (pss_one (ps_ret pe_bl)) pss_nil)))
      (pss_one (ps_ret pe_bl)))

section
variable {P : Program} {w : World} {K : PySem.W.Frag} {mg : Str → Option Value} {base : Heap}
/-- a table, kept waits, and the rooms -/
structure TKR (K : PySem.W.Frag) (H : Hp) (n : Nat) (a b ro : Addr) (g : Gr) (t : Nat → Int) : Prop where
  tab : TR K H a n n (oI g)
  wai : SqT K H b (tabI n t)
  roo : TR K H ro n n (oI (roomF n g t))
  one : 1 ≤ n
  le : n ≤ 60
  kept : Kept n g t
  nn : NN n t
  dg : ∀ i, i < n → g i i = some 0
theorem TKR.mono {H H' : Hp} {n : Nat} {a b ro : Addr} {g : Gr} {t : Nat → Int} (h : TKR K H n a b ro g t) (S : Same H H') : TKR K H' n a b ro g t := ⟨S.tt h.tab, S.t h.wai, S.tt h.roo, h.one, h.le, h.kept, h.nn, h.dg⟩
theorem TKR.tk {H : Hp} {n : Nat} {a b ro : Addr} {g : Gr} {t : Nat → Int} (h : TKR K H n a b ro g t) : TK K H n a b g t := ⟨h.tab, .inr h.wai, h.one, h.le, h.kept⟩
theorem TKR.tw {H : Hp} {n : Nat} {a b ro : Addr} {g : Gr} {t : Nat → Int} (h : TKR K H n a b ro g t) : TW K H n a b g t := ⟨h.tab, h.wai, h.one, by have := h.le; omega⟩
theorem loose_iff {n : Nat} {g : Gr} {t : Nat → Int} {z : Nat} (hz : z < n) : (∀ k, k < n → k ≠ z → ¬ (g z k = roomF n g t z k ∧ g z k ≠ none)) ↔ Loose n g t z := by
  constructor
  · intro h v e s hv ne he hs q
    refine h v hv ne ⟨?_, by rw [he]; simp⟩
    unfold roomF
    rw [if_neg ne, he, hs]
    show some e = some (t z - s)
    congr 1; omega
  · intro h k hk ne ⟨e1, e2⟩
    obtain ⟨e, he⟩ := Option.ne_none_iff_exists'.mp e2
    rw [he] at e1
    obtain ⟨s, h1, h2⟩ := room_some ne e1.symm
    exact h k e s hk ne he h1 (by omega)
theorem al_loose {σ : L2.St} {H : Hp} {n : Nat} {a b ro : Addr} {g : Gr} {t : Nat → Int} {z : Nat} {ta tb tz tz' : TE} (hT : TKR K H n a b ro g t) (hz : z < n) (ha : Va ta σ H (.ref a)) (hr : Va tb σ H (.ref ro)) (h1 : Va tz σ H (.int (z : Int))) (h2 : Va tz' σ H (.int (z : Int))) :
    Al (tCall (spLoose K) [] E0 (tCons (tOp (rIx K) ta tz) (tCons (tOp (rIx K) tb tz') tNil))) σ H (IsB (Loose n g t z)) := by
  obtain ⟨ad, t1, t2⟩ := hT.tab
  obtain ⟨rd, r1, r2⟩ := hT.roo
  refine al_call (vs_cons (va_op ha h1 (vr_xTt (f := fun i => .ref (ad i)) t1 hz)) (vs_cons (va_op hr h2 (vr_xTt (f := fun i => .ref (rd i)) r1 hz)) vs_nil)) fun Q E q => ⟨n, ad z, rd z, g z, roomF n g t z, z, rfl, t2 z hz, r2 z hz, by have := hT.le; omega, hz, hT.dg z hz, by unfold roomF; rw [if_pos rfl], fun v H1 S1 ⟨c, e1, e2⟩ => q v H1 S1 ⟨c, e1, e2.trans (loose_iff hz)⟩⟩
def spTight (K : PySem.W.Frag) : Sp := fun vs H Q _ => ∃ (n : Nat) (a b ro : Addr) (g : Gr) (t : Nat → Int) (z : Nat), vs = [.ref a, .ref b, .ref ro, .int (z : Int)] ∧ TKR K H n a b ro g t ∧ z < n ∧ Ret (fun v _ => v = .bl true) H Q
theorem cal__law_tight (T : Txt K mg) : Cal P w K mg base 6 "_law_tight" ["_law_g", "_law_t", "_law_rooms_here", "_law_door"] (spTight K) := by
  refine T._law_tight.cal sc__law_tight (fun vs H Q E h => ?_) (fun f cdv A outer s H vs Q E hr h => ⟨_, d__law_tight T.B (cal_tight_ring T) (cal__law_loose T) (cal__law_ring T) hr, ?_⟩)
  · obtain ⟨n, a, b, ro, g, t, z, rfl, _⟩ := h; rfl
  obtain ⟨n, a, b, ro, g, t, z, rfl, hT, hz, q⟩ := h
  have hn := hT.le
  unfold t__law_tight
  refine q_asgA (al_call (P := Tight K n (gn g t) z) (vs_cons (va_var rfl) (vs_cons (va_var rfl) (vs_cons (va_var rfl) vs_nil))) fun Q E r => ⟨n, a, b, g, t, z, rfl, hT.tw, hT.nn, hT.kept, hz, r⟩) fun v H1 S1 hti => ?_
  have hT1 := hT.mono S1
  refine q_ifQn (p := fun c _ => c = true ↔ Loose n g t z) (aq_B (al_loose hT1 hz (va_var rfl) (va_var rfl) (va_var rfl) (va_var rfl)) fun v H2 S2 p => p) (fun H2 S2 p => ?_) (fun H2 S2 p => ?_)
  · have L := p.mp rfl
    rcases hti with ⟨ev, _⟩ | ⟨rA, pp, c, ev, h1, h2, h3, h4⟩
    · subst ev
      exact st_ret (va_op (va_var (v := .non) rfl) va_c vr_isNn) (q _ _ (S1.trans S2) rfl)
    · exact absurd L (tight_loose hT.kept h2 h3 hz h4)
  · have L : ¬ Loose n g t z := fun z' => by have := p.mpr z'; cases this
    rcases hti with ⟨ev, hno⟩ | ⟨rA, pp, c, ev, h1, h2, h3, h4⟩
    · exfalso
      refine L fun v e s hv ne he hs q' => ?_
      exact hno v (e - t z) s hv (by rw [gn_ne (Ne.symm ne), he]; rfl) hs q'
    · subst ev
      have hra : SqT K H2 rA (tab pp fun i => .int (c i : Nat)) := (h1.same S2).sq
      have hR : RT K H2 n g rA pp c := RT.of (by omega) h2 hra
      have two := h2.two
      have hsum : rsum (gn g t) pp c = ents g pp c - sumN pp (fun i => t (c i)) := (ring_entries h2).2
      refine q_asgA (al_ring (hT1.mono S2).tab hR (va_var rfl) (va_var rfl)) fun v H3 S3 ev => ?_
      subst ev
      have hw3 := ((hT1.mono S2).mono S3).wai
      refine st_retA (P := fun v _ => v = .bl true) (al_andT (va_op (va_var (v := .int (ents g pp c)) rfl) va_c vr_notNi) (al_andT (va_op (va_var rfl) (va_var rfl) (vr_inT (S3.t hra) rfl flat_tabI ?_)) (al_opR (P := fun v _ => v = .int (sumN pp fun i => t (c i))) (va_var (v := .int (ents g pp c)) rfl) (al_waits (n := n) (b := b) (t := t) (j := 6) hw3 (hR.mono S3) (va_var rfl) (fun k H4 hk S4 => va_op (va_var rfl) (va_var rfl) (vr_xTt (S4.t hw3) (hR.lt k hk))) (fun _ => rfl)) fun v H4 S4 ev => ⟨.bl (decide (ents g pp c = sumN pp fun i => t (c i))), by rw [ev]; exact vr_eqI, ?_⟩))) fun v H4 S4 e => q v H4 (((S1.trans S2).trans S3).trans S4) e
      · rw [if_neg Bool.false_ne_true, inV_ints]
        exact List.any_eq_true.mpr ⟨0, List.mem_range.mpr (by omega), decide_eq_true (by rw [h4])⟩
      · rw [decide_eq_true (by omega)]
/-! ### the least wait that the law asks -/
def spRest (K : PySem.W.Frag) : Sp := fun vs H Q _ => ∃ (n : Nat) (a b : Addr) (g : Gr) (t : Nat → Int) (x y z : Nat) (s : Int), vs = [.ref a, .ref b, .int (x : Int), .int (y : Int), .int (z : Int), .int (t x - s)] ∧ TK K H n a b g t ∧ x < n ∧ y < n ∧ z < n ∧
  Ret (fun v _ => (v = .int (t z + 1) ∧ (z = x ∨ z = y ∨ bestS n (off z (gn g t)) x y ≠ some s)) ∨ (v = .non ∧ z ≠ x ∧ z ≠ y ∧ bestS n (off z (gn g t)) x y = some s)) H Q
theorem cal__law_rest (T : Txt K mg) : Cal P w K mg base 2 "_law_rest" ["_law_g", "_law_t", "_law_x", "_law_y", "_law_z", "_law_room"] (spRest K) := by
  refine T._law_rest.cal sc__law_rest (fun vs H Q E h => ?_) (fun f cdv A outer s H vs Q E hr h => ⟨_, d__law_rest T.B (cal__law_walks T) hr, ?_⟩)
  · obtain ⟨n, a, b, g, t, x, y, z, s, rfl, _⟩ := h; rfl
  obtain ⟨n, a, b, g, t, x, y, z, s, rfl, hT, hx, hy, hz, q⟩ := h
  have hn := hT.le
  unfold t__law_rest
  have vz : ∀ {σ : L2.St} {H1 : Hp}, Same H H1 → σ[1]? = some (some (.ref b)) → σ[4]? = some (some (.int (z : Int))) → Va (tOp rAdd (tOp (rIx K) (tVar 1) (tVar 4)) (tC (.int 1))) σ H1 (.int (t z + 1)) := fun S h1 h4 => va_op (va_op (va_var h1) (va_var h4) (vr_xA (SqA.mono hT.wai S) hz)) va_c vr_add
  refine q_ifn (b := decide (z = x) || decide (z = y)) (vt_or (vt_is (vt_test (va_op (va_var rfl) (va_var rfl) vr_eqI)) (by simp [Int.ofNat_inj])) fun _ => vt_is (vt_test (va_op (va_var rfl) (va_var rfl) vr_eqI)) (by simp [Int.ofNat_inj])) (fun hb => ?_) (fun hb => ?_)
  · refine st_ret (vz (Same.refl H) rfl rfl) (q _ _ (Same.refl H) (.inl ⟨rfl, ?_⟩))
    rcases Bool.or_eq_true _ _ ▸ hb with h | h
    · exact .inl (of_decide_eq_true h)
    · exact .inr (.inl (of_decide_eq_true h))
  · obtain ⟨h1, h2⟩ := Bool.or_eq_false_iff.mp hb
    have hzx := of_decide_eq_false h1
    have hzy := of_decide_eq_false h2
    refine q_asgA (al_walks (z := some z) hT (va_var rfl) (va_var rfl) (al_tup (vs := [.int (z : Int)]) (vs_cons (va_var rfl) vs_nil))) fun v H1 S1 ⟨AA, ev, hA⟩ => ?_
    subst ev
    rcases way_of (z := some z) hT.kept hn hx hy with ⟨w1, w2⟩ | ⟨s', h, w1, w2, w3, _⟩
    · have w2 : bestS n (off z (gn g t)) x y = none := w2
      exact q_ifFn (vt_and0 (vt_test (va_op (va_is (va_LL hA (va_var rfl) (va_var rfl) (va_var rfl) hy hx) (oV_none w1)) va_c vr_notNn))) (st_ret (vz S1 rfl rfl) (q _ _ S1 (.inl ⟨rfl, .inr (.inr (by rw [w2]; simp))⟩)))
    · have w2 : bestS n (off z (gn g t)) x y = some s' := w2
      refine q_ifn (b := decide (s' = s)) (vt_andT (vt_test (va_op (va_is (va_LL hA (va_var rfl) (va_var rfl) (va_var rfl) hy hx) (oV_some w1)) va_c vr_notNi)) (vt_is (vt_test (va_op (va_op (va_op (va_var rfl) (va_var rfl) (vr_xA (SqA.mono hT.wai S1) hx)) (va_op (va_is (va_LL hA (va_var rfl) (va_var rfl) (va_var rfl) hy hx) (oV_some w1)) va_c (vr_fdv (by constructor <;> omega))) vr_add) (va_var rfl) vr_eqI)) ?_)) (fun hb => ?_) (fun hb => ?_)
      · rw [Way.div w3, Bool.eq_iff_iff, decide_eq_true_iff, decide_eq_true_iff]
        omega
      · exact st_ret va_c (q _ _ S1 (.inr ⟨rfl, hzx, hzy, by rw [w2, of_decide_eq_true hb]⟩))
      · exact st_ret (vz S1 rfl rfl) (q _ _ S1 (.inl ⟨rfl, .inr (.inr (by rw [w2]; intro e; exact of_decide_eq_false hb (Option.some.inj e)))⟩))
/-! ### bare, by the law -/
def spLBare (K : PySem.W.Frag) : Sp := fun vs H Q _ => ∃ (n : Nat) (a b ro : Addr) (g : Gr) (t : Nat → Int), vs = [.ref a, .ref b, .ref ro] ∧ TKR K H n a b ro g t ∧ Ret (IsB (Bare n g t)) H Q
theorem bare_all {n : Nat} {g : Gr} {t : Nat → Int} (hk : Kept n g t) (h0 : NN n t) : Bare n g t ↔ ∀ x, x < n → ¬ (0 < t x ∧ Loose n g t x) := by
  constructor
  · intro h x hx ⟨h1, h2⟩
    rcases (bare_iff hk h0 hx).mp (h.2 x hx) with e | e
    · omega
    · exact e h2
  · intro h
    refine ⟨hk, fun x hx => (bare_iff hk h0 hx).mpr ?_⟩
    by_cases c : t x = 0
    · exact .inl c
    · exact .inr fun L => h x hx ⟨by have := h0 x hx; omega, L⟩
theorem cal__law_is_bare (T : Txt K mg) : Cal P w K mg base 2 "_law_is_bare" ["_law_g", "_law_t", "_law_rooms_here"] (spLBare K) := by
  refine T._law_is_bare.cal sc__law_is_bare (fun vs H Q E h => ?_) (fun f cdv A outer s H vs Q E hr h => ⟨_, d__law_is_bare T.B (cal__law_loose T) hr, ?_⟩)
  · obtain ⟨n, a, b, ro, g, t, rfl, _⟩ := h; rfl
  obtain ⟨n, a, b, ro, g, t, rfl, hT, q⟩ := h
  have hn := hT.le
  unfold t__law_is_bare
  refine q_forR (n := n) (vs_cons (va_cb (vs_cons (va_var rfl) vs_nil) (vc_lenTT hT.tab)) vs_nil) (by omega) (fun x σ' H' => ∃ v3, σ' = [some (.ref a), some (.ref b), some (.ref ro), v3] ∧ Same H H' ∧ ∀ z, z < x → ¬ (0 < t z ∧ Loose n g t z)) ⟨none, rfl, Same.refl H, fun z hz => absurd hz (Nat.not_lt_zero z)⟩ (fun x σ' H' hx ⟨v3, es, S, hno⟩ => ?_) (fun σ' H' ⟨v3, es, S, hno⟩ => ?_)
  · subst es
    have hT' := hT.mono S
    by_cases h0 : 0 < t x
    · refine st_ifQ (p := fun c _ => c = true ↔ Loose n g t x) (fun Q2 q2 => vt_test (va_op (va_op (va_var rfl) (va_var rfl) (vr_xTt hT'.wai hx)) va_c vr_gt) _ (by
        rw [decide_eq_true h0]
        exact iteT (aq_B (al_loose hT' hx (va_var rfl) (va_var rfl) (va_var rfl) (va_var rfl)) (fun v H2 S2 p => p) Q2 q2))) (fun H2 S2 p => ?_) (fun H2 S2 p => ?_)
      · exact st_ret va_c (q _ _ (S.trans S2) ⟨false, rfl, fun z => (by cases z), fun B => absurd ⟨h0, p.mp rfl⟩ ((bare_all hT.kept hT.nn).mp B x hx)⟩)
      · refine ⟨_, rfl, S.trans S2, fun z hz => ?_⟩
        by_cases c : z = x
        · subst c; exact fun ⟨_, L⟩ => by have := p.mpr L; cases this
        · exact hno z (by omega)
    · refine st_ifF (vt_and0 (vt_is (vt_test (va_op (va_op (va_var rfl) (va_var rfl) (vr_xTt hT'.wai hx)) va_c vr_gt)) (decide_eq_false h0))) ⟨_, rfl, S, fun z hz => ?_⟩
      by_cases c : z = x
      · subst c; exact fun ⟨h1, _⟩ => h0 h1
      · exact hno z (by omega)
  · subst es
    exact st_ret va_c (q _ _ S ⟨true, rfl, fun _ => (bare_all hT.kept hT.nn).mpr hno, fun _ => rfl⟩)
end
end K45
set_option Elab.async false
set_option linter.all false
set_option maxRecDepth 100000
set_option maxHeartbeats 200000
namespace K45
open PySem PySem.Spec PyProof.Rows L2
abbrev s__law_bared : Stmt := topS 79
theorem sc__law_bared : FnScope ["_law_g", "_law_t", "_law_first", "_law_k", "_law_x"] ["_law_g", "_law_t", "_law_first"] (defScope s__law_bared) := ⟨rfl, rfl, rfl, by decide +kernel, rfl, by decide +kernel, by decide +kernel⟩
def t__law_bared (K : PySem.W.Frag) (sp__law_lower sp__law_same sp_least_wait sp_is_bare : Sp) : TS := (tSeq (tFor (iRng1 (tCons (tCB (cLen K) (tCons (tVar 0) tNil)) tNil)) (gName 3) (tAsg (tCall sp__law_lower [] E0 (tCons (tVar 0) (tCons (tVar 1) (tCons (tOp rMod (tOp rAdd (tVar 2) (tVar 3)) (tCB (cLen K) (tCons (tVar 0) tNil))) tNil)))) (gName 1)))
    (tSeq (tFor (iRng1 (tCons (tCB (cLen K) (tCons (tVar 0) tNil)) tNil)) (gName 4) (tIfS (tNot (tB (tCall sp__law_same [] E0 (tCons (tCall sp_least_wait [] E0 (tCons (tVar 0) (tCons (tVar 1) (tCons (tVar 4) tNil)))) (tCons (tOp (rIx K) (tVar 1) (tVar 4)) tNil))))) (tRet (tC (.bl false))) tNext))
    (tRet (tCall sp__law_same [] E0 (tCons (tCall sp_is_bare [] E0 (tCons (tVar 0) (tCons (tVar 1) tNil))) (tCons (tC (.bl true)) tNil))))))
theorem d__law_bared {P : Program} {w : World} {K : PySem.W.Frag} {mg : Str → Option Value} {base : Heap} (B : Bif mg) {sp__law_lower sp__law_same sp_least_wait sp_is_bare : Sp} (c__law_lower : Cal P w K mg base 2 "_law_lower" ["_law_g", "_law_t", "_law_x"] sp__law_lower) (c__law_same : Cal P w K mg base 4 "_law_same" ["_law_thing", "_law_due"] sp__law_same) (c_least_wait : Cal P w K mg base 5 "least_wait" ["table", "waits", "door"] sp_least_wait) (c_is_bare : Cal P w K mg base 4 "is_bare" ["table", "waits"] sp_is_bare) {f : Addr} {cdv : Value} {A : Around} {outer : List Env} {s : Shared} {H : Hp} {E : XK} (hr : Room 5 (A.deeper (envOfC "_law_bared" (defScope s__law_bared) s.heap.objs.size f cdv))) :
    PSs (cxOf CX0 P w K mg base ["_law_g", "_law_t", "_law_first", "_law_k", "_law_x"] "_law_bared" (defScope s__law_bared) f cdv A outer s H E).nox (defBody s__law_bared) (t__law_bared K sp__law_lower sp__law_same sp_least_wait sp_is_bare) := by
  have nd := sc__law_bared.nd
  exact (pss_cons (ps_for PassesOwn.never rfl (pi_range1 (by rfl) B.range_ (pa_cons (pe_callB k_len (by rfl) B.len_ (by decide +kernel) (pa_cons (pv 0) pa_nil)) pa_nil)) (pg_name (i := 3) nd rfl (Or.inl rfl)) (pss_one (ps_set (i := 1) nd rfl (Or.inl rfl) (pe_cal c__law_lower hr (by decide) (by rfl) (pa_cons (pv 0) (pa_cons (pv 1) (pa_cons (pe_op k_mod (pe_op k_add (pv 2) (pv 3)) (pe_callB k_len (by rfl) B.len_ (by decide +kernel) (pa_cons (pv 0) pa_nil))) pa_nil)))))))
      (pss_cons (ps_for PassesOwn.never rfl (pi_range1 (by rfl) B.range_ (pa_cons (pe_callB k_len (by rfl) B.len_ (by decide +kernel) (pa_cons (pv 0) pa_nil)) pa_nil)) (pg_name (i := 4) nd rfl (Or.inl rfl)) (pss_one (ps_if (pt_not (pt_val (pe_cal c__law_same hr (by decide) (by rfl) (pa_cons (pe_cal c_least_wait hr (by decide) (by rfl) (pa_cons (pv 0) (pa_cons (pv 1) (pa_cons (pv 4) pa_nil)))) (pa_cons (pe_ix ix_seq (pv 1) (pv 4) (fun _ _ => rfl)) pa_nil))))) (pss_one (ps_ret pe_bl)) pss_nil)))
      (pss_one (ps_ret (pe_cal c__law_same hr (by decide) (by rfl) (pa_cons (pe_cal c_is_bare hr (by decide) (by rfl) (pa_cons (pv 0) (pa_cons (pv 1) pa_nil))) (pa_cons pe_bl pa_nil)))))))

section
variable {P : Program} {w : World} {K : PySem.W.Frag} {mg : Str → Option Value} {base : Heap}
theorem al_same {σ : L2.St} {H : Hp} {ta tb : TE} {Pv : V → Hp → Prop} (h : Al ta σ H Pv) (k : ∀ v H1, Same H H1 → Pv v H1 → ∃ y, Va tb σ H1 y ∧ SameR K H1 2 v y) : Al (tCall (spSame K 3) [] E0 (tCons ta (tCons tb tNil))) σ H (fun v _ => v = .bl true) := fun Q q =>
  h _ fun v H1 S p => by
    obtain ⟨y, h1, h2⟩ := k v H1 S p
    exact h1 _ ⟨v, y, rfl, h2, fun v' H2 S2 e => q v' H2 (S.trans S2) e⟩
/-- if not _law_same(..): return False -/
theorem at_same {σ : L2.St} {H : Hp} {ta tb : TE} {Pv : V → Hp → Prop} (h : Al ta σ H Pv) (k : ∀ v H1, Same H H1 → Pv v H1 → ∃ y, Va tb σ H1 y ∧ SameR K H1 2 v y) : At (tNot (tB (tCall (spSame K 3) [] E0 (tCons ta (tCons tb tNil))))) σ H false :=
  at_is (at_not (at_B (b := true) (al_same h k))) rfl
/-- a table and kept waits, a tuple, none below 0 -/
structure TKT (K : PySem.W.Frag) (H : Hp) (n : Nat) (a b : Addr) (g : Gr) (t : Nat → Int) : Prop where
  tab : TR K H a n n (oI g)
  wai : SqT K H b (tabI n t)
  one : 1 ≤ n
  le : n ≤ 60
  kept : Kept n g t
  nn : NN n t
  dg : ∀ i, i < n → g i i = some 0
theorem TKT.mono {H H' : Hp} {n : Nat} {a b : Addr} {g : Gr} {t : Nat → Int} (h : TKT K H n a b g t) (S : Same H H') : TKT K H' n a b g t := ⟨S.tt h.tab, S.t h.wai, h.one, h.le, h.kept, h.nn, h.dg⟩
theorem TKT.tk {H : Hp} {n : Nat} {a b : Addr} {g : Gr} {t : Nat → Int} (h : TKT K H n a b g t) : TK K H n a b g t := ⟨h.tab, .inr h.wai, h.one, h.le, h.kept⟩
theorem TKT.tw {H : Hp} {n : Nat} {a b : Addr} {g : Gr} {t : Nat → Int} (h : TKT K H n a b g t) : TW K H n a b g t := ⟨h.tab, h.wai, h.one, by have := h.le; omega⟩
theorem TKT.tkr {H : Hp} {n : Nat} {a b ro : Addr} {g : Gr} {t : Nat → Int} (h : TKT K H n a b g t) (hr : TR K H ro n n (oI (roomF n g t))) : TKR K H n a b ro g t := ⟨h.tab, h.wai, hr, h.one, h.le, h.kept, h.nn, h.dg⟩
theorem al_leastW {σ : L2.St} {H : Hp} {n : Nat} {a b : Addr} {g : Gr} {t : Nat → Int} {x : Nat} {ta tb tc : TE} (hT : TW K H n a b g t) (h0 : NN n t) (hx : x < n) (ha : Va ta σ H (.ref a)) (hb : Va tb σ H (.ref b)) (hc : Va tc σ H (.int (x : Int))) :
    Al (tCall (spLeastWait K) [] E0 (tCons ta (tCons tb (tCons tc tNil)))) σ H (LeastW n g t x) := al_call (vs_cons ha (vs_cons hb (vs_cons hc vs_nil))) fun Q E q => ⟨n, a, b, g, t, x, rfl, hT, h0, hx, q⟩
theorem al_isKept {σ : L2.St} {H : Hp} {n : Nat} {a b : Addr} {g : Gr} {t : Nat → Int} {ta tb : TE} (hT : TW K H n a b g t) (h0 : NN n t) (ha : Va ta σ H (.ref a)) (hb : Va tb σ H (.ref b)) : Al (tCall (spIsKept K) [] E0 (tCons ta (tCons tb tNil))) σ H (IsB (Kept n g t)) :=
  al_call (vs_cons ha (vs_cons hb vs_nil)) fun Q E q => ⟨n, a, b, g, t, rfl, hT, h0, q⟩
theorem al_isBare {σ : L2.St} {H : Hp} {n : Nat} {a b : Addr} {g : Gr} {t : Nat → Int} {ta tb : TE} (hT : TW K H n a b g t) (h0 : NN n t) (ha : Va ta σ H (.ref a)) (hb : Va tb σ H (.ref b)) : Al (tCall (spIsBare K) [] E0 (tCons ta (tCons tb tNil))) σ H (IsB (Bare n g t)) :=
  al_call (vs_cons ha (vs_cons hb vs_nil)) fun Q E q => ⟨n, a, b, g, t, rfl, hT, h0, q⟩
theorem IsB.same {p : Prop} {v : V} {H H1 : Hp} {σ : L2.St} (h : IsB p v H1) (hp : p) : ∃ y, Va (tC (.bl true)) σ H1 y ∧ SameR K H1 2 v y := by
  obtain ⟨b, e, hb⟩ := h
  subst e
  rw [hb.mpr hp]
  exact ⟨_, va_c, .bl true⟩
theorem IsB.sameF {p : Prop} {v : V} {H1 : Hp} {σ : L2.St} (h : IsB p v H1) (hp : ¬ p) : ∃ y, Va (tC (.bl false)) σ H1 y ∧ SameR K H1 2 v y := by
  obtain ⟨b, e, hb⟩ := h
  subst e
  cases b with
  | true => exact absurd (hb.mp rfl) hp
  | false => exact ⟨_, va_c, .bl false⟩
def spBared (K : PySem.W.Frag) : Sp := fun vs H Q _ => ∃ (n : Nat) (a b : Addr) (g : Gr) (t : Nat → Int) (x : Nat), vs = [.ref a, .ref b, .int (x : Int)] ∧ TKT K H n a b g t ∧ Ret (fun v _ => v = .bl true) H Q
theorem cal__law_bared (T : Txt K mg) : Cal P w K mg base 6 "_law_bared" ["_law_g", "_law_t", "_law_first"] (spBared K) := by
  refine T._law_bared.cal sc__law_bared (fun vs H Q E h => ?_) (fun f cdv A outer s H vs Q E hr h => ⟨_, d__law_bared T.B (cal__law_lower T) (cal__law_same T 3) (cal_least_wait T) (cal_is_bare T) hr, ?_⟩)
  · obtain ⟨n, a, b, g, t, x, rfl, _⟩ := h; rfl
  obtain ⟨n, a, b, g, t, x0, rfl, hT, q⟩ := h
  have hn := hT.le
  have h1 := hT.one
  let d : Nat → Nat := fun k => (x0 + k) % n
  have hd : ∀ k, d k < n := fun k => Nat.mod_lt _ (by omega)
  have L := lows_ok h1 hT.kept hT.nn hd
  unfold t__law_bared
  refine q_forR (n := n) (vs_cons (va_cb (vs_cons (va_var rfl) vs_nil) (vc_lenTT hT.tab)) vs_nil) (by omega) (fun k σ' H' => ∃ b' v3, σ' = [some (.ref a), some (.ref b'), some (.int (x0 : Int)), v3, none] ∧ Same H H' ∧ SqT K H' b' (tabI n (lows n g t d k))) ⟨b, none, rfl, Same.refl H, hT.wai⟩ (fun k σ' H' hk ⟨b', v3, es, S, hb'⟩ => ?_) (fun σ' H' ⟨b', v3, es, S, hb'⟩ => ?_)
  · subst es
    obtain ⟨l1, l2, l3, _⟩ := L k
    have hT' : TK K H' n a b' g (lows n g t d k) := ⟨S.tt hT.tab, .inr hb', h1, hn, l1⟩
    have em : ((x0 : Int) + (k : Int)) % (n : Int) = ((d k : Nat) : Int) := by
      show _ = (((x0 + k) % n : Nat) : Int)
      rw [show ((x0 : Int) + (k : Int)) = ((x0 + k : Nat) : Int) by omega]; exact (Int.natCast_emod _ _).symm
    refine st_asgA (al_call (P := IsNewT H' (tabI n (lows n g t d (k + 1)))) (vs_cons (va_var rfl) (vs_cons (va_var rfl) (vs_cons (va_is (va_op (va_op (va_var rfl) (va_var rfl) vr_add) (va_cb (vs_cons (va_var rfl) vs_nil) (vc_lenTT hT'.tab)) (vr_mod (by omega))) (congrArg V.int em)) vs_nil))) fun Q E r => ⟨n, a, b', g, lows n g t d k, d k, rfl, hT', hd k, r⟩) fun v H1 S1 ⟨p, ev, _, hp⟩ => ?_
    subst ev
    exact ⟨p, _, rfl, S.trans S1, SqT.of hp⟩
  · subst es
    obtain ⟨l1, l2, l3, l4⟩ := L n
    generalize lows n g t d n = u at hb' l1 l2 l3 l4
    have all : ∀ z, z < n → needF n g u z = u z := fun z hz => by
      have : ∃ j, j < n ∧ d j = z := by
        refine ⟨(z + (n - x0 % n)) % n, Nat.mod_lt _ (by omega), ?_⟩
        show (x0 + (z + (n - x0 % n)) % n) % n = z
        rw [Nat.add_mod_mod]
        have h3 := Nat.div_add_mod x0 n
        have h4 := Nat.mod_lt x0 (show 0 < n by omega)
        have e : x0 + (z + (n - x0 % n)) = z + n * (x0 / n + 1) := by rw [Nat.mul_add, Nat.mul_one]; omega
        rw [e, Nat.add_mul_mod_self_left, Nat.mod_eq_of_lt hz]
      obtain ⟨j, hj, ej⟩ := this
      rw [← ej]; exact l4 j hj
    have hTW : TW K H' n a b' g u := ⟨S.tt hT.tab, hb', h1, by omega⟩
    refine q_forR (n := n) (vs_cons (va_cb (vs_cons (va_var rfl) vs_nil) (vc_lenTT hTW.tab)) vs_nil) (by omega) (fun x σ'' H'' => ∃ v4, σ'' = [some (.ref a), some (.ref b'), some (.int (x0 : Int)), v3, v4] ∧ Same H' H'') ⟨none, rfl, Same.refl H'⟩ (fun x σ'' H'' hx ⟨v4, es, S2⟩ => ?_) (fun σ'' H'' ⟨v4, es, S2⟩ => ?_)
    · subst es
      refine st_ifFA (at_same (al_leastW (hTW.mono S2) l2 hx (va_var rfl) (va_var rfl) (va_var rfl)) fun v H3 S3 hv => ?_) fun H3 S3 => ⟨_, rfl, S2.trans S3⟩
      rcases hv with ⟨no, _⟩ | ⟨_, ev⟩
      · exact absurd (kept_cut l1 x) no
      · subst ev
        rw [all x hx]
        exact ⟨_, va_op (va_var rfl) (va_var rfl) (vr_xTt (S3.t (S2.t hb')) hx), .int _⟩
    · subst es
      exact st_retA (al_same (al_isBare (hTW.mono S2) l2 (va_var rfl) (va_var rfl)) fun v H3 S3 hv => IsB.same (H := H3) hv ⟨l1, fun x hx => (all x hx).symm⟩) fun v H3 S3 e => q v H3 ((S.trans S2).trans S3) e
end
end K45
set_option Elab.async false
set_option linter.all false
set_option maxRecDepth 100000
set_option maxHeartbeats 200000
namespace K45
open PySem PySem.Spec PyProof.Rows L2
abbrev s__law_worth : Stmt := topS 74
theorem sc__law_worth : FnScope ["_law_g", "_law_r", "_law_dealing", "_law_b", "_law_v", "_law_x", "_law_y", "_law_row"] ["_law_g", "_law_r", "_law_dealing"] (defScope s__law_worth) := ⟨rfl, rfl, rfl, by decide +kernel, rfl, by decide +kernel, by decide +kernel⟩
def t__law_worth (K : PySem.W.Frag) (sp__law_ints : Sp) : TS := (tSeq (tAsg (tCB (cLen K) (tCons (tVar 0) tNil)) (gName 3))
    (tSeq (tIfS (tOr (tNot (tB (tCB (cIsi K) (tCons (tVar 2) (tCons (tC (.ty "tuple")) tNil))))) (tTest (tOp rNe (tCB (cLen K) (tCons (tVar 2) tNil)) (tVar 3)))) (tRet (tC .non)) tNext)
    (tSeq (tAsg (tC (.int 0)) (gName 4))
    (tSeq (tFor (iRng1 (tCons (tVar 3) tNil)) (gName 5) (tSeq (tIfS (tOr (tNot (tB (tCall sp__law_ints [] E0 (tCons (tOp (rIx K) (tVar 2) (tVar 5)) (tCons (tVar 3) tNil))))) (tTest (tOp rNe (tCB (cSum K) (tCons (tOp (rIx K) (tVar 2) (tVar 5)) tNil)) (tOp (rIx K) (tVar 1) (tVar 5))))) (tRet (tC .non)) tNext)
    (tFor (iRng1 (tCons (tVar 3) tNil)) (gName 6) (tIfS (tTest (tOp kNotN (tOp (rIx K) (tOp (rIx K) (tVar 0) (tVar 5)) (tVar 6)) (tC .non))) (tAsg (tOp rAdd (tVar 4) (tOp rMul (tOp (rIx K) (tOp (rIx K) (tVar 2) (tVar 5)) (tVar 6)) (tOp (rIx K) (tOp (rIx K) (tVar 0) (tVar 5)) (tVar 6)))) (gName 4)) (tIfS (tTest (tOp rNe (tOp (rIx K) (tOp (rIx K) (tVar 2) (tVar 5)) (tVar 6)) (tC (.int 0)))) (tRet (tC .non)) tNext)))))
    (tSeq (tIfS (tTest (tOp (rNeD K) (tLc (iRng1 (tCons (tVar 3) tNil)) (gName 6) tYes (tCB (cSum K) (tCons (tLc (iTup K (tVar 2)) (gName 7) tYes (tOp (rIx K) (tVar 7) (tVar 6)) [7]) tNil)) [6]) (tCB (cList K) (tCons (tVar 1) tNil)))) (tRet (tC .non)) tNext)
    (tRet (tVar 4)))))))
theorem d__law_worth {P : Program} {w : World} {K : PySem.W.Frag} {mg : Str → Option Value} {base : Heap} (B : Bif mg) {sp__law_ints : Sp} (c__law_ints : Cal P w K mg base 1 "_law_ints" ["_law_thing", "_law_b"] sp__law_ints) {f : Addr} {cdv : Value} {A : Around} {outer : List Env} {s : Shared} {H : Hp} {E : XK} (hr : Room 1 (A.deeper (envOfC "_law_worth" (defScope s__law_worth) s.heap.objs.size f cdv))) :
    PSs (cxOf CX0 P w K mg base ["_law_g", "_law_r", "_law_dealing", "_law_b", "_law_v", "_law_x", "_law_y", "_law_row"] "_law_worth" (defScope s__law_worth) f cdv A outer s H E).nox (defBody s__law_worth) (t__law_worth K sp__law_ints) := by
  have nd := sc__law_worth.nd
  exact (pss_cons (ps_set (i := 3) nd rfl (Or.inl rfl) (pe_callB k_len (by rfl) B.len_ (by decide +kernel) (pa_cons (pv 0) pa_nil)))
      (pss_cons (ps_if (PW.pt (pw_or (pt_not (pt_val (pe_callB k_isi (by rfl) B.isinstance_ (by decide +kernel) (pa_cons (pv 2) (pa_cons (pe_bltn (v := .ty "tuple") (by rfl) B.tuple_ (by decide +kernel) rfl) pa_nil))))) (pw_or1 (pt_cmpR op_ne (pe_callB k_len (by rfl) B.len_ (by decide +kernel) (pa_cons (pv 2) pa_nil)) (pv 3) (nomark _))))) (pss_one (ps_ret pe_non)) pss_nil)
      (pss_cons (ps_set (i := 4) nd rfl (Or.inl rfl) pe_int)
      (pss_cons (ps_for PassesOwn.never rfl (pi_range1 (by rfl) B.range_ (pa_cons (pv 3) pa_nil)) (pg_name (i := 5) nd rfl (Or.inl rfl)) (pss_cons (ps_if (PW.pt (pw_or (pt_not (pt_val (pe_cal c__law_ints hr (by decide) (by rfl) (pa_cons (pe_ix ix_seq (pv 2) (pv 5) (fun _ _ => rfl)) (pa_cons (pv 3) pa_nil))))) (pw_or1 (pt_cmpR op_ne (pe_callB (k_sum rfl) (by rfl) B.sum_ (by decide +kernel) (pa_cons (pe_ix ix_seq (pv 2) (pv 5) (fun _ _ => rfl)) pa_nil)) (pe_ix ix_seq (pv 1) (pv 5) (fun _ _ => rfl)) (nomark _))))) (pss_one (ps_ret pe_non)) pss_nil)
      (pss_one (ps_for PassesOwn.never rfl (pi_range1 (by rfl) B.range_ (pa_cons (pv 3) pa_nil)) (pg_name (i := 6) nd rfl (Or.inl rfl)) (pss_one (ps_if (pt_cmpR k_notN (pe_ix ix_seq (pe_ix ix_seq (pv 0) (pv 5) (fun _ _ => rfl)) (pv 6) (fun _ _ => rfl)) pe_non (nomark _)) (pss_one (ps_set (i := 4) nd rfl (Or.inl rfl) (pe_op k_add (pv 4) (pe_op k_mul (pe_ix ix_seq (pe_ix ix_seq (pv 2) (pv 5) (fun _ _ => rfl)) (pv 6) (fun _ _ => rfl)) (pe_ix ix_seq (pe_ix ix_seq (pv 0) (pv 5) (fun _ _ => rfl)) (pv 6) (fun _ _ => rfl)))))) (pss_one (ps_if (pt_cmpR op_ne (pe_ix ix_seq (pe_ix ix_seq (pv 2) (pv 5) (fun _ _ => rfl)) (pv 6) (fun _ _ => rfl)) pe_int (nomark _)) (pss_one (ps_ret pe_non)) pss_nil))))))))
      (pss_cons (ps_if (pt_cmpR (op_neD hr.units) (pe_lc (own := [("_law_y", 6)]) rfl nd (pi_range1 (by rfl) B.range_ (pa_cons (pv 3) pa_nil)) (blkOk_by (own := [("_law_y", 6)]) (by kernel_rfl)) (fun _ _ _ _ _ => (pg_name (i := 6) nd rfl (Or.inr rfl))) (fun _ _ _ _ _ => pts_nil) (fun _ _ _ _ _ => (pe_callB (k_sum rfl) (by rfl) B.sum_ (by decide +kernel) (pa_cons (pe_lc (own := [("_law_row", 7)]) rfl nd (pi_tup (pv 2)) (blkOk_by (own := [("_law_row", 7)]) (by kernel_rfl)) (fun _ _ _ _ _ => (pg_name (i := 7) nd rfl (Or.inl rfl))) (fun _ _ _ _ _ => pts_nil) (fun _ _ _ _ _ => (pe_ix ix_seq (pv 7) (pv 6) (fun _ _ => rfl)))) pa_nil)))) (pe_callTy k_list (by rfl) B.list_ (by decide +kernel) (pa_cons (pv 1) pa_nil)) (nomark _)) (pss_one (ps_ret pe_non)) pss_nil)
      (pss_one (ps_ret (pv 4))))))))

section
variable {P : Program} {w : World} {K : PySem.W.Frag} {mg : Str → Option Value} {base : Heap}
theorem lay_ints : ∀ L : List Int, PyData.canLayAll0 (L.map .int) = true ∧ PyData.depthAll (L.map .int) = 0
  | [] => ⟨by simp only [List.map_nil, PyData.canLayAll0], by simp only [List.map_nil, PyData.depthAll]⟩
  | x :: L => by
    obtain ⟨h1, h2⟩ := lay_ints L
    refine ⟨?_, ?_⟩
    · simp only [List.map_cons, PyData.canLayAll0, PyData.canLay0, h1, Bool.and_self]
    · simp only [List.map_cons, PyData.depthAll, PyData.depth, h2, Nat.max_self]
theorem shaped_ints (L : List Int) : SeqAt.shaped (.list (L.map .int)) = true ∧ PyData.eqv (.list (L.map .int)) (.list (L.map .int)) = true := by
  obtain ⟨h1, h2⟩ := lay_ints L
  have c : PyData.canLay0 (.list (L.map .int)) = true := by simp only [PyData.canLay0, h1]
  refine ⟨?_, SeqAt.eqv_refl _ c⟩
  unfold SeqAt.shaped
  rw [c]
  have : PyData.depth (.list (L.map .int)) = 1 := by simp only [PyData.depth, h2]
  rw [this]; rfl
theorem dp_ints {H : Hp} : ∀ L : List Int, DpAll K H (L.map V.int) (L.map .int)
  | [] => .nil
  | x :: L => .cons (.int x) (dp_ints L)
/-- two lists of the same ints -/
theorem vr_neL {H : Hp} {a b : Addr} {L : List Int} (h1 : SqL K H a (L.map V.int)) (h2 : SqL K H b (L.map V.int)) : Vr (rNeD K) (.ref a) (.ref b) H (.bl false) := fun Q q =>
  ⟨_, _, .lst h1 (dp_ints L), .lst h2 (dp_ints L), (shaped_ints L).1, (shaped_ints L).1, by rw [(shaped_ints L).2]; exact q⟩
/-- a dealing in a tuple -/
structure DT (K : PySem.W.Frag) (H : Hp) (n : Nat) (g : Gr) (r : Nat → Int) (da : Addr) (f : Fl) : Prop where
  tab : TR K H da n n (fun i j => .int (f i j))
  nn : ∀ i j, i < n → j < n → 0 ≤ f i j
  lt : ∀ i j, i < n → j < n → f i j < 2 ^ 64
  row : ∀ i, i < n → sumN n (f i) = r i
  col : ∀ j, j < n → sumN n (fun i => f i j) = r j
  pos : ∀ i j, i < n → j < n → 0 < f i j → ∃ w, g i j = some w
theorem DT.mono {H H' : Hp} {n : Nat} {g : Gr} {r : Nat → Int} {da : Addr} {f : Fl} (h : DT K H n g r da f) (S : Same H H') : DT K H' n g r da f := ⟨S.tt h.tab, h.nn, h.lt, h.row, h.col, h.pos⟩
def spLWorth (K : PySem.W.Frag) : Sp := fun vs H Q _ => ∃ (n : Nat) (a ra da : Addr) (g : Gr) (r : Nat → Int) (f : Fl), vs = [.ref a, .ref ra, .ref da] ∧ TRt K H n a ra g r ∧ DT K H n g r da f ∧ Ret (fun v _ => v = .int (worth n g f)) H Q
theorem al_sumT {σ : L2.St} {H : Hp} {p : Addr} {n : Nat} {f : Nat → Int} {te : TE} (h : Va te σ H (.ref p)) (hl : SqT K H p (tabI n f)) : Va (tCB (cSum K) (tCons te tNil)) σ H (.int (sumN n f)) := va_cb (vs_cons h vs_nil) fun Q q => ⟨p, _, rfl, .inr (by rw [← tab_ints]; exact hl), by rw [range_sum]; exact q⟩
theorem cal__law_worth (T : Txt K mg) : Cal P w K mg base 2 "_law_worth" ["_law_g", "_law_r", "_law_dealing"] (spLWorth K) := by
  refine T._law_worth.cal sc__law_worth (fun vs H Q E h => ?_) (fun fa cdv A outer s H vs Q E hr h => ⟨_, d__law_worth T.B (cal__law_ints T) hr, ?_⟩)
  · obtain ⟨n, a, ra, da, g, r, f, rfl, _⟩ := h; rfl
  obtain ⟨n, a, ra, da, g, r, f, rfl, hT, hD, q⟩ := h
  have hn := hT.rt.le
  obtain ⟨ad, d1, d2⟩ := id hD.tab
  unfold t__law_worth
  refine q_asg (v := .int (n : Int)) (va_cb (vs_cons (va_var rfl) vs_nil) (vc_lenTT hT.tab)) ?_
  refine q_ifFn (vt_orF (vt_is (vt_not (vt_B (va_cb (vs_cons (va_var rfl) (vs_cons va_c vs_nil)) (vc_isi (.tup da _ d1))))) rfl) (vt_is (vt_test (va_op (va_cb (vs_cons (va_var rfl) vs_nil) (vc_lenTt d1)) (va_var rfl) vr_neI)) (by simp))) ?_
  refine q_asg (v := .int 0) va_c ?_
  let W : Nat → Int := fun i => sumN i fun i => sumN n fun j => f i j * (g i j).getD 0
  refine q_forR (n := n) (vs_cons (va_var rfl) vs_nil) (by omega) (fun x σ' H' => ∃ v5 v6, σ' = [some (.ref a), some (.ref ra), some (.ref da), some (.int (n : Int)), some (.int (W x)), v5, v6, none] ∧ Same H H') ⟨none, none, rfl, Same.refl H⟩ (fun x σ' H' hx ⟨v5, v6, es, S⟩ => ?_) (fun σ' H' ⟨v5, v6, es, S⟩ => ?_)
  · subst es
    refine q_ifFAn (at_orF (at_is (at_not (at_B (b := true) (al_call (P := fun v _ => v = .bl true) (vs_cons (va_op (va_var rfl) (va_var rfl) (vr_xTt (f := fun i => .ref (ad i)) (S.t d1) hx)) (vs_cons (va_var rfl) vs_nil)) fun Q E r2 => ⟨n, ad x, f x, rfl, S.t (d2 x hx), by omega, fun j hj => hD.nn x j hx hj, r2⟩))) rfl) fun H1 S1 => at_vt (vt_is (vt_test (va_op (al_sumT (va_op (va_var rfl) (va_var rfl) (vr_xTt (f := fun i => .ref (ad i)) ((S.trans S1).t d1) hx)) ((S.trans S1).t (d2 x hx))) (va_op (va_var rfl) (va_var rfl) (vr_xTt (f := fun i => .int (r i)) ((S.trans S1).t hT.rt.sq) hx)) vr_neI)) (by rw [decide_eq_true (hD.row x hx)]; rfl))) fun H1 S1 => ?_
    have S' := S.trans S1
    refine st_forR (n := n) (vs_cons (va_var rfl) vs_nil) (by omega) (fun y σ' H' => ∃ v6, σ' = [some (.ref a), some (.ref ra), some (.ref da), some (.int (n : Int)), some (.int (W x + sumN y fun j => f x j * (g x j).getD 0)), some (.int (x : Int)), v6, none] ∧ H1 = H') ⟨v6, by show _ = [_, _, _, _, some (V.int (W x + 0)), _, _, _]; rw [Int.add_zero]; rfl, rfl⟩ (fun y σ' H' hy ⟨v6, es, eH⟩ => ?_) (fun σ' H' ⟨v6, es, eH⟩ => ?_)
    · subst es eH
      have vf : ∀ {σ : L2.St}, σ[2]? = some (some (V.ref da)) → σ[5]? = some (some (.int (x : Int))) → σ[6]? = some (some (.int (y : Int))) → Va (tOp (rIx K) (tOp (rIx K) (tVar 2) (tVar 5)) (tVar 6)) σ H1 (.int (f x y)) := fun h2 h5 h6 => va_TT (F := fun i j => .int (f i j)) (S'.tt hD.tab) (va_var h2) (va_var h5) (va_var h6) hx hy
      have nx : sumN (y + 1) (fun j => f x j * (g x j).getD 0) = sumN y (fun j => f x j * (g x j).getD 0) + f x y * (g x y).getD 0 := rfl
      cases cg : g x y with
      | none =>
        have hz : f x y = 0 := by
          refine Classical.byContradiction fun z => ?_
          have := hD.nn x y hx hy
          obtain ⟨w, hw⟩ := hD.pos x y hx hy (by omega)
          rw [cg] at hw; cases hw
        refine st_ifF (vt_test (va_op (va_is (va_TT (S'.tt hT.tab) (va_var rfl) (va_var rfl) (va_var rfl) hx hy) (oV_none cg)) va_c vr_notNn)) ?_
        refine st_ifF (vt_is (vt_test (va_op (vf rfl rfl rfl) va_c vr_neI)) (by rw [decide_eq_true hz]; rfl)) ⟨some (.int (y : Int)), ?_, rfl⟩
        rw [nx, hz, Int.zero_mul, Int.add_zero]; rfl
      | some e =>
        refine st_ifT (vt_test (va_op (va_is (va_TT (S'.tt hT.tab) (va_var rfl) (va_var rfl) (va_var rfl) hx hy) (oV_some cg)) va_c vr_notNi)) ?_
        refine st_asg (va_op (va_var rfl) (va_op (vf rfl rfl rfl) (va_is (va_TT (S'.tt hT.tab) (va_var rfl) (va_var rfl) (va_var rfl) hx hy) (oV_some cg)) (vr_mul (.inl ⟨Int.lt_of_lt_of_le (show -(2 : Int) ^ 64 < 0 by decide) (hD.nn x y hx hy), hD.lt x y hx hy⟩))) vr_add) ⟨some (.int (y : Int)), ?_, rfl⟩
        rw [nx, cg]
        show [_, _, _, _, some (V.int (W x + _ + f x y * e)), _, _, _] = [_, _, _, _, some (V.int (W x + (_ + f x y * e))), _, _, _]
        rw [Int.add_assoc]
    · subst es eH
      exact ⟨_, _, rfl, S'⟩
  · subst es
    have hcols : (tab n fun y => V.int (sumN n fun i => f i y)) = (tabI n r) := tab_congr fun y hy => by rw [hD.col y hy]
    have hD' := hD.mono S
    refine q_ifFAn (at_T (b := false) (al_op2 (P := IsNewL H' (tab n fun y => .int (sumN n fun i => f i y))) (al_lcV (fun y => .int (sumN n fun i => f i y)) (src_R (n := n) (vs_cons (va_var rfl) vs_nil) (by omega)) (fun _ => rfl) (by omega) fun y H2 hy S2 => ?_) fun v H1 S1 ⟨p, ev, _, hp⟩ => Al.imp (al_listT (va_var rfl) (S1.t (S.t hT.rt.sq))) fun v2 H2 S2 ⟨p2, ev2, _, hp2⟩ => ⟨.bl false, ?_, rfl⟩)) fun H1 S1 => st_ret (va_var rfl) (q _ _ (S.trans S1) rfl)
    · exact al_cb1 (al_lcV (fun i => .int (f i y)) (src_T (n := n) (f := fun i => .ref (ad i)) (va_var rfl) (S2.t (S.t d1))) (fun _ => rfl) (by omega) fun i H3 hi S3 => al_va (va_op (va_var (v := .ref (ad i)) rfl) (va_var rfl) (vr_xTt (f := fun j => .int (f i j)) ((S2.trans S3).t (S.t (d2 i hi))) hy))) fun v H1 S1 ⟨L, ev, _, hL⟩ Q2 q2 => ⟨L, _, by rw [ev], .inl (SqL.of (by rw [hL]; exact congrArg (fun l => some (HO.lst l)) tab_ints)), by rw [range_sum]; exact q2 _ H1 (Same.refl _) rfl⟩
    · subst ev ev2
      rw [hcols] at hp
      refine vr_neL (L := (List.range n).map r) (SqL.of ?_) (SqL.of ?_)
      · rw [← tab_ints]; exact S2 _ _ hp
      · rw [← tab_ints]; exact hp2
end
end K45
set_option Elab.async false
set_option linter.all false
set_option maxRecDepth 100000
set_option maxHeartbeats 200000
namespace K45
open PySem PySem.Spec PyProof.Rows L2
abbrev s__law_cost : Stmt := topS 75
theorem sc__law_cost : FnScope ["_law_g", "_law_r", "_law_t", "_law_cost_here", "_law_k"] ["_law_g", "_law_r", "_law_t"] (defScope s__law_cost) := ⟨rfl, rfl, rfl, by decide +kernel, rfl, by decide +kernel, by decide +kernel⟩
def t__law_cost (K : PySem.W.Frag) (sp__law_ints sp__law_kept sp__law_worth sp_dearest_dealing sp__law_same sp_least_cost : Sp) : TS := (tSeq (tIfS (tOr (tNot (tB (tCall sp__law_ints [] E0 (tCons (tVar 2) (tCons (tCB (cLen K) (tCons (tVar 0) tNil)) tNil))))) (tNot (tB (tCall sp__law_kept [] E0 (tCons (tVar 0) (tCons (tVar 2) tNil)))))) (tRet (tC .non)) tNext)
    (tSeq (tAsg (tCB (cSum K) (tCons (tLc (iRng1 (tCons (tCB (cLen K) (tCons (tVar 0) tNil)) tNil)) (gName 4) tYes (tOp rMul (tOp (rIx K) (tVar 1) (tVar 4)) (tOp (rIx K) (tVar 2) (tVar 4))) [4]) tNil)) (gName 3))
    (tSeq (tIfS (tTest (tOp rNe (tCall sp__law_worth [] E0 (tCons (tVar 0) (tCons (tVar 1) (tCons (tCall sp_dearest_dealing [] E0 (tCons (tVar 0) (tCons (tVar 1) tNil))) tNil)))) (tVar 3))) (tRet (tC .non)) tNext)
    (tSeq (tIfS (tNot (tB (tCall sp__law_same [] E0 (tCons (tCall sp_least_cost [] E0 (tCons (tVar 0) (tCons (tVar 1) tNil))) (tCons (tVar 3) tNil))))) (tRet (tC .non)) tNext)
    (tRet (tVar 3))))))
theorem d__law_cost {P : Program} {w : World} {K : PySem.W.Frag} {mg : Str → Option Value} {base : Heap} (B : Bif mg) {sp__law_ints sp__law_kept sp__law_worth sp_dearest_dealing sp__law_same sp_least_cost : Sp} (c__law_ints : Cal P w K mg base 1 "_law_ints" ["_law_thing", "_law_b"] sp__law_ints) (c__law_kept : Cal P w K mg base 2 "_law_kept" ["_law_g", "_law_t"] sp__law_kept) (c__law_worth : Cal P w K mg base 2 "_law_worth" ["_law_g", "_law_r", "_law_dealing"] sp__law_worth) (c_dearest_dealing : Cal P w K mg base 5 "dearest_dealing" ["table", "rates"] sp_dearest_dealing) (c__law_same : Cal P w K mg base 4 "_law_same" ["_law_thing", "_law_due"] sp__law_same) (c_least_cost : Cal P w K mg base 5 "least_cost" ["table", "rates"] sp_least_cost) {f : Addr} {cdv : Value} {A : Around} {outer : List Env} {s : Shared} {H : Hp} {E : XK} (hr : Room 5 (A.deeper (envOfC "_law_cost" (defScope s__law_cost) s.heap.objs.size f cdv))) :
    PSs (cxOf CX0 P w K mg base ["_law_g", "_law_r", "_law_t", "_law_cost_here", "_law_k"] "_law_cost" (defScope s__law_cost) f cdv A outer s H E).nox (defBody s__law_cost) (t__law_cost K sp__law_ints sp__law_kept sp__law_worth sp_dearest_dealing sp__law_same sp_least_cost) := by
  have nd := sc__law_cost.nd
  exact (pss_cons (ps_if (PW.pt (pw_or (pt_not (pt_val (pe_cal c__law_ints hr (by decide) (by rfl) (pa_cons (pv 2) (pa_cons (pe_callB k_len (by rfl) B.len_ (by decide +kernel) (pa_cons (pv 0) pa_nil)) pa_nil))))) (pw_or1 (pt_not (pt_val (pe_cal c__law_kept hr (by decide) (by rfl) (pa_cons (pv 0) (pa_cons (pv 2) pa_nil)))))))) (pss_one (ps_ret pe_non)) pss_nil)
      (pss_cons (ps_set (i := 3) nd rfl (Or.inl rfl) (pe_callB (k_sum rfl) (by rfl) B.sum_ (by decide +kernel) (pa_cons (pe_lc (own := [("_law_k", 4)]) rfl nd (pi_range1 (by rfl) B.range_ (pa_cons (pe_callB k_len (by rfl) B.len_ (by decide +kernel) (pa_cons (pv 0) pa_nil)) pa_nil)) (blkOk_by (own := [("_law_k", 4)]) (by kernel_rfl)) (fun _ _ _ _ _ => (pg_name (i := 4) nd rfl (Or.inl rfl))) (fun _ _ _ _ _ => pts_nil) (fun _ _ _ _ _ => (pe_op k_mul (pe_ix ix_seq (pv 1) (pv 4) (fun _ _ => rfl)) (pe_ix ix_seq (pv 2) (pv 4) (fun _ _ => rfl))))) pa_nil)))
      (pss_cons (ps_if (pt_cmpR op_ne (pe_cal c__law_worth hr (by decide) (by rfl) (pa_cons (pv 0) (pa_cons (pv 1) (pa_cons (pe_cal c_dearest_dealing hr (by decide) (by rfl) (pa_cons (pv 0) (pa_cons (pv 1) pa_nil))) pa_nil)))) (pv 3) (nomark _)) (pss_one (ps_ret pe_non)) pss_nil)
      (pss_cons (ps_if (pt_not (pt_val (pe_cal c__law_same hr (by decide) (by rfl) (pa_cons (pe_cal c_least_cost hr (by decide) (by rfl) (pa_cons (pv 0) (pa_cons (pv 1) pa_nil))) (pa_cons (pv 3) pa_nil))))) (pss_one (ps_ret pe_non)) pss_nil)
      (pss_one (ps_ret (pv 3)))))))

section
variable {P : Program} {w : World} {K : PySem.W.Frag} {mg : Str → Option Value} {base : Heap}
/-! ### the cost of waits of least cost -/
def spCost (K : PySem.W.Frag) : Sp := fun vs H Q _ => ∃ (n : Nat) (a ra b : Addr) (g : Gr) (r t : Nat → Int), vs = [.ref a, .ref ra, .ref b] ∧ TRt K H n a ra g r ∧ SqT K H b (tabI n t) ∧ 1 ≤ n ∧ n ≤ 60 ∧ Cheap n g r t ∧ Ret (fun v _ => v = .int (dot n r t)) H Q
theorem cal__law_cost (T : Txt K mg) : Cal P w K mg base 6 "_law_cost" ["_law_g", "_law_r", "_law_t"] (spCost K) := by
  refine T._law_cost.cal sc__law_cost (fun vs H Q E h => ?_) (fun fa cdv A outer s H vs Q E hr h => ⟨_, d__law_cost T.B (cal__law_ints T) (cal__law_kept T) (cal__law_worth T) (cal_dearest_dealing T) (cal__law_same T 3) (cal_least_cost T) hr, ?_⟩)
  · obtain ⟨n, a, ra, b, g, r, t, rfl, _⟩ := h; rfl
  obtain ⟨n, a, ra, b, g, r, t, rfl, hT, hb, h1, hn, hC, q⟩ := h
  unfold t__law_cost
  refine q_ifFAn (at_orF (at_is (at_not (at_B (b := true) (al_call (P := fun v _ => v = .bl true) (vs_cons (va_var rfl) (vs_cons (va_cb (vs_cons (va_var rfl) vs_nil) (vc_lenTT hT.tab)) vs_nil)) fun Q E r2 => ⟨n, b, t, rfl, hb, by omega, hC.2.1, r2⟩))) rfl) fun H1 S1 => at_is (at_not (at_B (b := true) (al_call (P := fun v _ => v = .bl true) (vs_cons (va_var rfl) (vs_cons (va_var rfl) vs_nil)) fun Q E r2 => ⟨n, a, b, g, t, rfl, ⟨S1.tt hT.tab, .inr (S1.t hb), h1, hn, hC.1⟩, r2⟩))) rfl) fun H1 S1 => ?_
  have hT1 := hT.mono S1
  have hb1 := S1.t hb
  refine q_asgA (P := fun v _ => v = .int (dot n r t)) (al_cb1 (al_lcV (fun k => .int (r k * t k)) (src_R (n := n) (vs_cons (va_cb (vs_cons (va_var rfl) vs_nil) (vc_lenTT hT1.tab)) vs_nil) (by omega)) (fun _ => rfl) (by omega) fun k H2 hk S2 => al_va (va_op (va_op (va_var rfl) (va_var rfl) (vr_xTt (f := fun i => .int (r i)) (S2.t hT1.rt.sq) hk)) (va_op (va_var rfl) (va_var rfl) (vr_xTt (f := fun i => .int (t i)) (S2.t hb1) hk)) (vr_mul (.inl ⟨Int.lt_of_lt_of_le (show -(2 : Int) ^ 64 < 0 by decide) (hT.rt.nn k hk), hT.rt.lt k hk⟩)))) fun v H2 S2 ⟨L, ev, _, hL⟩ Q2 q2 => ⟨L, _, by rw [ev], .inl (SqL.of (by rw [hL]; exact congrArg (fun l => some (HO.lst l)) tab_ints)), by rw [range_sum]; exact q2 _ H2 (Same.refl _) rfl⟩) fun v H2 S2 ev => ?_
  subst ev
  have hT2 := hT1.mono S2
  refine q_ifFAn (at_T (b := false) (al_op (P := fun v _ => v = .int (dot n r t)) (al_callA (Pa := fun vs H3 => ∃ da f, vs = [.ref a, .ref ra, .ref da] ∧ TRt K H3 n a ra g r ∧ DT K H3 n g r da f ∧ worth n g f = dot n r t) (ac_cons (Pr := fun _ _ => True) (al_va (va_var (v := .ref a) rfl)) fun v H3 S3 e3 => ac_cons (Pr := fun _ _ => True) (al_va (va_var (v := .ref ra) rfl)) fun v4 H4 S4 e4 => ac_cons (Pr := fun _ _ => True) (al_call (P := IsDealT K n g r) (vs_cons (va_var rfl) (vs_cons (va_var rfl) vs_nil)) fun Q E r2 => ⟨n, a, ra, g, r, rfl, hT2.mono (S3.trans S4), r2⟩) fun v5 H5 S5 ⟨f, ⟨da, ev, htr⟩, hD⟩ => fun Q7 q7 => q7 [] H5 (Same.refl _) ⟨da, f, by rw [e3, e4, ev], hT2.mono ((S3.trans S4).trans S5), ⟨htr, hD.nn, fun i j hi hj => Int.lt_of_le_of_lt (hD.le hi hj) (hT.rt.lt i hi), hD.row, hD.col, hD.pos⟩, hD.is hT.dg hC⟩) fun vs H3 S3 ⟨da, f, evs, h3, h4, hw⟩ Q E r2 => ⟨n, a, ra, da, g, r, f, evs, h3, h4, fun v H6 S6 e => r2 v H6 S6 (by rw [e, hw])⟩) fun v H3 S3 ev => ⟨.int (dot n r t), .bl false, va_var rfl, by rw [ev]; exact fun Q8 q8 => vr_neI Q8 (by rw [decide_eq_true rfl]; exact q8), rfl⟩)) fun H3 S3 => ?_
  have hT3 := hT2.mono S3
  refine q_ifFAn (at_same (al_call (P := fun v _ => ∃ f, v = .int (worth n g f) ∧ Dealt n g r f) (vs_cons (va_var rfl) (vs_cons (va_var rfl) vs_nil)) fun Q E r2 => ⟨n, a, ra, g, r, rfl, hT3, r2⟩) fun v H4 S4 ⟨f, ev, hD⟩ => ⟨.int (dot n r t), va_var rfl, by rw [ev, hD.is hT.dg hC]; exact .int _⟩) fun H4 S4 => ?_
  exact st_ret (va_var rfl) (q _ _ (((S1.trans S2).trans S3).trans S4) rfl)
end
end K45
set_option Elab.async false
set_option linter.all false
set_option maxRecDepth 100000
set_option maxHeartbeats 200000
namespace K45
open PySem PySem.Spec PyProof.Rows L2
abbrev s__law_costs : Stmt := topS 76
theorem sc__law_costs : FnScope ["_law_g", "_law_r", "_law_x", "_law_y", "_law_t", "_law_cost_here", "_law_room", "_law_full", "_law_over_here", "_law_more"] ["_law_g", "_law_r", "_law_x", "_law_y"] (defScope s__law_costs) := ⟨rfl, rfl, rfl, by decide +kernel, rfl, by decide +kernel, by decide +kernel⟩
def t__law_costs (K : PySem.W.Frag) (sp_cheapest_waits sp__law_cost sp__law_rooms sp__law_put : Sp) : TS := (tSeq (tAsg (tCall sp_cheapest_waits [] E0 (tCons (tVar 0) (tCons (tVar 1) tNil))) (gName 4))
    (tSeq (tAsg (tCall sp__law_cost [] E0 (tCons (tVar 0) (tCons (tVar 1) (tCons (tVar 4) tNil)))) (gName 5))
    (tSeq (tIfS (tTest (tOp kIsN (tVar 5) (tC .non))) (tRet (tC (.bl false))) tNext)
    (tSeq (tAsg (tOp (rIx K) (tOp (rIx K) (tCall sp__law_rooms [] E0 (tCons (tVar 0) (tCons (tVar 4) tNil))) (tVar 2)) (tVar 3)) (gName 6))
    (tSeq (tIfS (tTest (tOp kIsN (tVar 6) (tC .non))) (tRet (tOp rEq (tCall sp__law_cost [] E0 (tCons (tCall sp__law_put [] E0 (tCons (tVar 0) (tCons (tVar 2) (tCons (tVar 3) (tCons (tC (.int 9000000000000000000000000)) tNil))))) (tCons (tVar 1) (tCons (tVar 4) tNil)))) (tVar 5))) tNext)
    (tSeq (tIfS (tTest (tOp rGt (tCB cAbs (tCons (tVar 6) tNil)) (tC (.int 100000000000000000000000000000)))) (tRet (tC (.bl true))) tNext)
    (tSeq (tAsg (tCall sp__law_put [] E0 (tCons (tVar 0) (tCons (tVar 2) (tCons (tVar 3) (tCons (tVar 6) tNil))))) (gName 7))
    (tSeq (tAsg (tCall sp__law_put [] E0 (tCons (tVar 0) (tCons (tVar 2) (tCons (tVar 3) (tCons (tOp rAdd (tVar 6) (tC (.int 1))) tNil))))) (gName 8))
    (tSeq (tIfS (tTest (tOp rNe (tCall sp__law_cost [] E0 (tCons (tVar 7) (tCons (tVar 1) (tCons (tVar 4) tNil)))) (tVar 5))) (tRet (tC (.bl false))) tNext)
    (tSeq (tAsg (tCall sp__law_cost [] E0 (tCons (tVar 8) (tCons (tVar 1) (tCons (tCall sp_cheapest_waits [] E0 (tCons (tVar 8) (tCons (tVar 1) tNil))) tNil)))) (gName 9))
    (tRet (tAndV (tOp kNotN (tVar 9) (tC .non)) (tChain rLe rLe (tVar 5) (tVar 9) (tOp rAdd (tVar 5) (tCB cMin2 (tCons (tOp (rIx K) (tVar 1) (tVar 2)) (tCons (tOp (rIx K) (tVar 1) (tVar 3)) tNil)))))))))))))))))
theorem d__law_costs {P : Program} {w : World} {K : PySem.W.Frag} {mg : Str → Option Value} {base : Heap} (B : Bif mg) {sp_cheapest_waits sp__law_cost sp__law_rooms sp__law_put : Sp} (c_cheapest_waits : Cal P w K mg base 6 "cheapest_waits" ["table", "rates"] sp_cheapest_waits) (c__law_cost : Cal P w K mg base 6 "_law_cost" ["_law_g", "_law_r", "_law_t"] sp__law_cost) (c__law_rooms : Cal P w K mg base 2 "_law_rooms" ["_law_g", "_law_t"] sp__law_rooms) (c__law_put : Cal P w K mg base 1 "_law_put" ["_law_g", "_law_x", "_law_y", "_law_entry"] sp__law_put) {f : Addr} {cdv : Value} {A : Around} {outer : List Env} {s : Shared} {H : Hp} {E : XK} (hr : Room 6 (A.deeper (envOfC "_law_costs" (defScope s__law_costs) s.heap.objs.size f cdv))) :
    PSs (cxOf CX0 P w K mg base ["_law_g", "_law_r", "_law_x", "_law_y", "_law_t", "_law_cost_here", "_law_room", "_law_full", "_law_over_here", "_law_more"] "_law_costs" (defScope s__law_costs) f cdv A outer s H E).nox (defBody s__law_costs) (t__law_costs K sp_cheapest_waits sp__law_cost sp__law_rooms sp__law_put) := by
  have nd := sc__law_costs.nd
  exact (pss_cons (ps_set (i := 4) nd rfl (Or.inl rfl) (pe_cal c_cheapest_waits hr (by decide) (by rfl) (pa_cons (pv 0) (pa_cons (pv 1) pa_nil))))
      (pss_cons (ps_set (i := 5) nd rfl (Or.inl rfl) (pe_cal c__law_cost hr (by decide) (by rfl) (pa_cons (pv 0) (pa_cons (pv 1) (pa_cons (pv 4) pa_nil)))))
      (pss_cons (ps_if (pt_cmpR k_isN (pv 5) pe_non (nomark _)) (pss_one (ps_ret pe_bl)) pss_nil)
      (pss_cons (ps_set (i := 6) nd rfl (Or.inl rfl) (pe_ix ix_seq (pe_ix ix_seq (pe_cal c__law_rooms hr (by decide) (by rfl) (pa_cons (pv 0) (pa_cons (pv 4) pa_nil))) (pv 2) (fun _ _ => rfl)) (pv 3) (fun _ _ => rfl)))
      (pss_cons (ps_if (pt_cmpR k_isN (pv 6) pe_non (nomark _)) (pss_one (ps_ret (pe_cmpR op_eq (pe_cal c__law_cost hr (by decide) (by rfl) (pa_cons (pe_cal c__law_put hr (by decide) (by rfl) (pa_cons (pv 0) (pa_cons (pv 2) (pa_cons (pv 3) (pa_cons pe_int pa_nil))))) (pa_cons (pv 1) (pa_cons (pv 4) pa_nil)))) (pv 5) (nomark _)))) pss_nil)
      (pss_cons (ps_if (pt_cmpR k_gt (pe_callB k_abs (by rfl) B.abs_ (by decide +kernel) (pa_cons (pv 6) pa_nil)) pe_int (nomark _)) (pss_one (ps_ret pe_bl)) pss_nil)
      (pss_cons (ps_set (i := 7) nd rfl (Or.inl rfl) (pe_cal c__law_put hr (by decide) (by rfl) (pa_cons (pv 0) (pa_cons (pv 2) (pa_cons (pv 3) (pa_cons (pv 6) pa_nil))))))
      (pss_cons (ps_set (i := 8) nd rfl (Or.inl rfl) (pe_cal c__law_put hr (by decide) (by rfl) (pa_cons (pv 0) (pa_cons (pv 2) (pa_cons (pv 3) (pa_cons (pe_op k_add (pv 6) pe_int) pa_nil))))))
      (pss_cons (ps_if (pt_cmpR op_ne (pe_cal c__law_cost hr (by decide) (by rfl) (pa_cons (pv 7) (pa_cons (pv 1) (pa_cons (pv 4) pa_nil)))) (pv 5) (nomark _)) (pss_one (ps_ret pe_bl)) pss_nil)
      (pss_cons (ps_set (i := 9) nd rfl (Or.inl rfl) (pe_cal c__law_cost hr (by decide) (by rfl) (pa_cons (pv 8) (pa_cons (pv 1) (pa_cons (pe_cal c_cheapest_waits hr (by decide) (by rfl) (pa_cons (pv 8) (pa_cons (pv 1) pa_nil))) pa_nil)))))
      (pss_one (ps_ret (pe_and (pe_cmpR k_notN (pv 9) pe_non (nomark _)) (pe_one (pe_chain k_le k_le (pv 5) (pv 9) (pe_op k_add (pv 5) (pe_callB (k_min2 rfl) (by rfl) B.min_ (by decide +kernel) (pa_cons (pe_ix ix_seq (pv 1) (pv 2) (fun _ _ => rfl)) (pa_cons (pe_ix ix_seq (pv 1) (pv 3) (fun _ _ => rfl)) pa_nil)))))))))))))))))))

section
variable {P : Program} {w : World} {K : PySem.W.Frag} {mg : Str → Option Value} {base : Heap}
theorem al_put {σ : L2.St} {H : Hp} {n : Nat} {a : Addr} {g : Gr} {x y : Nat} {e : Option Int} {ta tx ty te : TE} (hT : TR K H a n n (oI g)) (hn : n ≤ 1000) (hx : x < n) (hy : y < n) (ha : Va ta σ H (.ref a)) (h1 : Va tx σ H (.int (x : Int))) (h2 : Va ty σ H (.int (y : Int))) (he : Va te σ H (oV e)) :
    Al (tCall (spPut K) [] E0 (tCons ta (tCons tx (tCons ty (tCons te tNil))))) σ H (IsTR K n n (oI (put g x y e))) := al_call (vs_cons ha (vs_cons h1 (vs_cons h2 (vs_cons he vs_nil)))) fun Q E q => ⟨n, a, g, x, y, e, rfl, hT, hn, hx, hy, q⟩
/-- rooms(..)[x][y] -/
theorem al_roomAt {σ : L2.St} {H : Hp} {n : Nat} {a b : Addr} {g : Gr} {t : Nat → Int} {x y : Nat} {ta tb tx ty : TE} (hT : TK K H n a b g t) (hx : x < n) (hy : y < n) (ha : Va ta σ H (.ref a)) (hb : Va tb σ H (.ref b)) (h1 : ∀ H1, Same H H1 → Va tx σ H1 (.int (x : Int))) (h2 : ∀ H1, Same H H1 → Va ty σ H1 (.int (y : Int))) :
    Al (tOp (rIx K) (tOp (rIx K) (tCall (spRooms K) [] E0 (tCons ta (tCons tb tNil))) tx) ty) σ H (fun v _ => v = oV (roomF n g t x y)) := fun Q q =>
  al_call (P := IsTR K n n (oI (roomF n g t))) (vs_cons ha (vs_cons hb vs_nil)) (fun Q E q => ⟨n, a, b, g, t, rfl, hT, q⟩) _ fun v H1 S1 ⟨p, ev, rd, r1, r2⟩ => by
    subst ev
    exact h1 H1 S1 _ (vr_xTt (f := fun i => .ref (rd i)) r1 hx _ (h2 H1 S1 _ (vr_xTt (f := fun j => oV (roomF n g t x j)) (r2 x hx) hy _ (q _ H1 S1 rfl))))
theorem va_chainLe {σ : L2.St} {H : Hp} {ta tb tc : TE} {i j k : Int} (ha : Va ta σ H (.int i)) (hb : Va tb σ H (.int j)) (hc : Va tc σ H (.int k)) (h1 : i ≤ j) (h2 : j ≤ k) : Va (tChain rLe rLe ta tb tc) σ H (.bl true) := fun Q q => ha _ (hb _ ⟨i, j, rfl, rfl, _, rfl, by
  rw [decide_eq_true h1]
  exact iteT (hc _ ⟨j, k, rfl, rfl, by show Q (.bl (decide (j ≤ k))) H; rw [decide_eq_true h2]; exact q⟩)⟩)
def spCosts (K : PySem.W.Frag) : Sp := fun vs H Q _ => ∃ (n : Nat) (a ra : Addr) (g : Gr) (r : Nat → Int) (x y : Nat), vs = [.ref a, .ref ra, .int (x : Int), .int (y : Int)] ∧ TRt K H n a ra g r ∧ 1 ≤ n ∧ n ≤ 60 ∧ x < n ∧ y < n ∧ y ≠ x ∧ (∀ i j e, i < n → j < n → g i j = some e → e ≤ 9000000000000000000000000) ∧ Ret (fun v _ => v = .bl true) H Q
theorem cal__law_costs (T : Txt K mg) : Cal P w K mg base 7 "_law_costs" ["_law_g", "_law_r", "_law_x", "_law_y"] (spCosts K) := by
  refine T._law_costs.cal sc__law_costs (fun vs H Q E h => ?_) (fun fa cdv A outer s H vs Q E hr h => ⟨_, d__law_costs T.B (cal_cheapest_waits T) (cal__law_cost T) (cal__law_rooms T) (cal__law_put T) hr, ?_⟩)
  · obtain ⟨n, a, ra, g, r, x, y, rfl, _⟩ := h; rfl
  obtain ⟨n, a, ra, g, r, x, y, rfl, hT, h1, hn, hx, hy, ne, hbd, q⟩ := h
  unfold t__law_costs
  refine q_asgA (al_call (P := IsCheap K n g r) (vs_cons (va_var rfl) (vs_cons (va_var rfl) vs_nil)) fun Q E r2 => ⟨n, a, ra, g, r, rfl, hT, r2⟩) fun v H1 S1 ⟨b, t, ev, hb, hC⟩ => ?_
  subst ev
  have hT1 := hT.mono S1
  have hk := hC.1
  refine q_asgA (al_call (P := fun v _ => v = .int (dot n r t)) (vs_cons (va_var rfl) (vs_cons (va_var rfl) (vs_cons (va_var rfl) vs_nil))) fun Q E r2 => ⟨n, a, ra, b, g, r, t, rfl, hT1, hb, h1, hn, hC, r2⟩) fun v H2 S2 ev => ?_
  subst ev
  have hT2 := hT1.mono S2
  have hb2 := S2.t hb
  refine q_ifFn (vt_test (va_op (va_var (v := .int (dot n r t)) rfl) va_c vr_isNi)) ?_
  refine q_asgA (al_roomAt (n := n) (g := g) (t := t) (x := x) (y := y) ⟨hT2.tab, .inr hb2, h1, hn, hk⟩ hx hy (va_var rfl) (va_var rfl) (fun _ _ => va_var rfl) (fun _ _ => va_var rfl)) fun v H3 S3 ev => ?_
  subst ev
  have hT3 := hT2.mono S3
  have hb3 := S3.t hb2
  have S03 := (S1.trans S2).trans S3
  obtain ⟨F, τ, bst⟩ := kept_best hk hx
  cases cr : roomF n g t x y with
  | none =>
    have hs := room_none ne cr
    have hkf : Kept n (put g x y (some 9000000000000000000000000)) t := kept_put h1 hk hx hy fun e' s e1 e2 => by rw [hs] at e2; cases e2
    refine q_ifT (vt_test (va_op (va_var (v := .non) rfl) va_c vr_isNn)) ?_
    refine st_retA (al_op (P := fun v _ => v = .int (dot n r t)) (al_callA (Pa := fun vs H4 => ∃ fa2, vs = [.ref fa2, .ref ra, .ref b] ∧ TR K H4 fa2 n n (oI (put g x y (some 9000000000000000000000000))) ∧ Same H3 H4) (ac_cons (Pr := fun _ _ => True) (al_put (e := some 9000000000000000000000000) hT3.tab hT.rt.le hx hy (va_var rfl) (va_var rfl) (va_var rfl) va_c) fun v H4 S4 ⟨p, e1, e2⟩ => fun Q7 q7 => vs_cons (va_var (v := .ref ra) rfl) (vs_cons (va_var (v := .ref b) rfl) vs_nil) _ (q7 _ H4 (Same.refl _) ⟨p, by rw [e1], e2, S4⟩)) fun vs H4 S4 ⟨fa2, evs, hf, S⟩ Q E r2 => ⟨n, fa2, ra, b, _, r, t, evs, ⟨hf, hT3.rt.mono S, put_dg ne hT.dg⟩, S.t hb3, h1, hn, cheap_put hC hkf fun e0 he => hbd x y e0 hx hy he, r2⟩) fun v H4 S4 ev => ⟨.int (dot n r t), .bl true, va_var rfl, by rw [ev]; exact fun Q8 q8 => vr_eqI Q8 (by rw [decide_eq_true rfl]; exact q8), rfl⟩) fun v H4 S4 e => q v H4 (S03.trans S4) e
  | some rm =>
    obtain ⟨s, hs, ers⟩ := room_some ne cr
    subst ers
    refine q_ifFn (vt_test (va_op (va_var (v := .int (t x - s)) rfl) va_c vr_isNi)) ?_
    refine q_ifn (vt_test (va_op (va_cb (vs_cons (va_var (v := .int (t x - s)) rfl) vs_nil) vc_abs) va_c vr_gt)) (fun _ => st_ret va_c (q _ _ S03 rfl)) fun _ => ?_
    refine q_asgA (al_put (n := n) (g := g) (x := x) (y := y) (e := some (t x - s)) hT3.tab hT.rt.le hx hy (va_var rfl) (va_var rfl) (va_var rfl) (va_var (v := .int (t x - s)) rfl)) fun v H4 S4 ⟨fa2, ev, hf⟩ => ?_
    subst ev
    have hT4 := hT3.mono S4
    refine q_asgA (al_put (n := n) (g := g) (x := x) (y := y) (e := some (t x - s + 1)) hT4.tab hT.rt.le hx hy (va_var rfl) (va_var rfl) (va_var rfl) (va_op (va_var (v := .int (t x - s)) rfl) va_c vr_add)) fun v H5 S5 ⟨oa, ev, ho⟩ => ?_
    subst ev
    have hT5 := hT4.mono S5
    have hb5 := S5.t (S4.t hb3)
    have hCf : Cheap n (full g t x y s) r t := cheap_put hC (full_kept h1 hk hx hy hs) fun e0 he => by have := entry_le hk hx hy ne he hs; omega
    refine q_ifFAn (at_T (b := false) (al_op (P := fun v _ => v = .int (dot n r t)) (al_call (vs_cons (va_var rfl) (vs_cons (va_var rfl) (vs_cons (va_var rfl) vs_nil))) fun Q E r2 => ⟨n, fa2, ra, b, full g t x y s, r, t, rfl, ⟨S5.tt hf, hT5.rt, put_dg ne hT.dg⟩, hb5, h1, hn, hCf, r2⟩) fun v H6 S6 ev => ⟨.int (dot n r t), .bl false, va_var rfl, by rw [ev]; exact fun Q8 q8 => vr_neI Q8 (by rw [decide_eq_true rfl]; exact q8), rfl⟩)) fun H6 S6 => ?_
    have hO6 : TRt K H6 n oa ra (over g t x y s) r := ⟨S6.tt ho, hT5.rt.mono S6, put_dg ne hT.dg⟩
    refine q_asgA (P := fun v _ => ∃ t2, Cheap n (over g t x y s) r t2 ∧ v = .int (dot n r t2)) (al_callA (Pa := fun vs H7 => ∃ b2 t2, vs = [.ref oa, .ref ra, .ref b2] ∧ TRt K H7 n oa ra (over g t x y s) r ∧ SqT K H7 b2 (tabI n t2) ∧ Cheap n (over g t x y s) r t2) (ac_cons (Pr := fun _ _ => True) (al_va (va_var (v := .ref oa) rfl)) fun v7 H7 S7 e7 => ac_cons (Pr := fun _ _ => True) (al_va (va_var (v := .ref ra) rfl)) fun v8 H8 S8 e8 => ac_cons (Pr := fun _ _ => True) (al_call (P := IsCheap K n (over g t x y s) r) (vs_cons (va_var rfl) (vs_cons (va_var rfl) vs_nil)) fun Q E r2 => ⟨n, oa, ra, _, r, rfl, hO6.mono (S7.trans S8), r2⟩) fun v9 H9 S9 ⟨b2, t2, ev, hb2', hC2⟩ => fun Q7 q7 => q7 [] H9 (Same.refl _) ⟨b2, t2, by rw [e7, e8, ev], hO6.mono ((S7.trans S8).trans S9), hb2', hC2⟩) fun vs H7 S7 ⟨b2, t2, evs, h7, h8, h9⟩ Q E r2 => ⟨n, oa, ra, b2, _, r, t2, evs, h7, h8, h1, hn, h9, fun v H10 S10 e => r2 v H10 S10 ⟨t2, h9, e⟩⟩) fun v H7 S7 ⟨t2, hC2, ev⟩ => ?_
    subst ev
    obtain ⟨c1, c2, c3⟩ := over_cost h1 hT.dg hC hx hy ne hs hC2
    have hr7 := S7.t hO6.rt.sq
    refine st_ret (v := .bl true) (va_is (va_and (a := true) (va_op (va_var (v := .int (dot n r t2)) rfl) va_c vr_notNi) fun _ => va_chainLe (i := dot n r t) (j := dot n r t2) (k := dot n r t + (if r y < r x then r y else r x)) (va_var rfl) (va_var rfl) (va_op (va_var rfl) (va_cb (vs_cons (va_op (va_var rfl) (va_var rfl) (vr_xTt (f := fun i => .int (r i)) hr7 hx)) (vs_cons (va_op (va_var rfl) (va_var rfl) (vr_xTt (f := fun i => .int (r i)) hr7 hy)) vs_nil)) vc_min2) vr_add) c1 (by split <;> omega)) rfl) (q _ _ ((((S03.trans S4).trans S5).trans S6).trans S7) rfl)
end
end K45
set_option Elab.async false
set_option linter.all false
set_option maxRecDepth 100000
set_option maxHeartbeats 200000
namespace K45
open PySem PySem.Spec PyProof.Rows L2
section
variable {P : Program} {w : World} {K : PySem.W.Frag} {mg : Str → Option Value} {base : Heap}
theorem sameO {H : Hp} {d : Nat} (o : Option Int) : SameR K H d (oV o) (oV o) := by cases o with
  | none => exact .non
  | some i => exact .int i
theorem sameTR {H : Hp} {a b : Addr} {n : Nat} {F : Nat → Nat → Option Int} (h1 : TR K H a n n (fun i j => oV (F i j))) (h2 : TR K H b n n (fun i j => oV (F i j))) (hn : n ≤ 1000) : SameR K H 2 (.ref a) (.ref b) := by
  obtain ⟨ad, a1, a2⟩ := h1
  obtain ⟨bd, b1, b2⟩ := h2
  exact .tup (f := fun i => .ref (ad i)) (g := fun i => .ref (bd i)) a1 b1 hn fun i hi => .tup (a2 i hi) (b2 i hi) hn fun j _ => sameO _
theorem list_tab (zs : List V) : zs = tab zs.length fun i => zs.getD i .non := by
  apply List.ext_getElem?
  intro i
  by_cases h : i < zs.length
  · rw [tab_get h, List.getElem?_eq_getElem h]; simp [List.getD, List.getElem?_eq_getElem h]
  · rw [List.getElem?_eq_none (by omega), List.getElem?_eq_none (by rw [tab_len]; omega)]
theorem cut_mem {xs : List V} {lo hi : Option Int} {v : V} (h : v ∈ cutV xs lo hi) : v ∈ xs := by
  unfold cutV at h
  first
    | exact List.mem_of_mem_drop (List.mem_of_mem_take h)
    | exact List.mem_of_mem_take (List.mem_of_mem_drop h)
/-- for x, y in a list of pairs; for x, y, z in a list of triples -/
theorem q_forLP {σ : L2.St} {H : Hp} {ta : TE} {a : Addr} {n j j2 : Nat} {tu tz : TS} {D : Ends} {td : Nat → Addr} {x y : Nat → V} (h : Va ta σ H (.ref a)) (Pv : Nat → L2.St → Hp → Prop) (h0 : Pv 0 σ H) (hl : ∀ k σ' H', Pv k σ' H' → SqL K H' a (tab n fun k => .ref (td k)) ∧ ∀ k, k < n → SqT K H' (td k) [x k, y k])
    (hs : ∀ k σ' H', k < n → Pv k σ' H' → tu { D with nx := Pv (k + 1), ct := Pv (k + 1), bk := tz D } ((σ'.set j (some (x k))).set j2 (some (y k))) H') (hd : ∀ σ' H', Pv n σ' H' → tz D σ' H') :
    tSeq (tFor (iList K ta) (gTup K 2 (gCons (gName j) (gCons (gName j2) gNil))) tu) tz D σ H :=
  h _ ⟨a, rfl, ⟨_, (hl 0 σ H h0).1⟩, for_list (xs := tab n fun k => .ref (td k)) Pv h0 (fun i σ' H' _ p => (hl i σ' H' p).1) (fun i z σ' H' hz p => by
    have hi : i < n := by have := (List.getElem?_eq_some_iff.mp hz).1; rw [tab_len] at this; exact this
    rw [tab_get hi] at hz
    cases hz
    exact g_pair ((hl i σ' H' p).2 i hi) (hs i σ' H' hi p)) (fun σ' H' p => hd σ' H' (by rw [tab_len] at p; exact p))⟩
theorem q_forLT {σ : L2.St} {H : Hp} {ta : TE} {a : Addr} {n j j2 j3 : Nat} {tu tz : TS} {D : Ends} {td : Nat → Addr} {x y z : Nat → V} (h : Va ta σ H (.ref a)) (Pv : Nat → L2.St → Hp → Prop) (h0 : Pv 0 σ H) (hl : ∀ k σ' H', Pv k σ' H' → SqL K H' a (tab n fun k => .ref (td k)) ∧ ∀ k, k < n → SqT K H' (td k) [x k, y k, z k])
    (hs : ∀ k σ' H', k < n → Pv k σ' H' → tu { D with nx := Pv (k + 1), ct := Pv (k + 1), bk := tz D } (((σ'.set j (some (x k))).set j2 (some (y k))).set j3 (some (z k))) H') (hd : ∀ σ' H', Pv n σ' H' → tz D σ' H') :
    tSeq (tFor (iList K ta) (gTup K 3 (gCons (gName j) (gCons (gName j2) (gCons (gName j3) gNil)))) tu) tz D σ H :=
  h _ ⟨a, rfl, ⟨_, (hl 0 σ H h0).1⟩, for_list (xs := tab n fun k => .ref (td k)) Pv h0 (fun i σ' H' _ p => (hl i σ' H' p).1) (fun i z' σ' H' hz p => by
    have hi : i < n := by have := (List.getElem?_eq_some_iff.mp hz).1; rw [tab_len] at this; exact this
    rw [tab_get hi] at hz
    cases hz
    exact g_three ((hl i σ' H' p).2 i hi) (hs i σ' H' hi p)) (fun σ' H' p => hd σ' H' (by rw [tab_len] at p; exact p))⟩
theorem al_roomOf {σ : L2.St} {H : Hp} {n : Nat} {a b : Addr} {g : Gr} {t : Nat → Int} {x y : Nat} {ta tb tx ty : TE} (hT : TW K H n a b g t) (h0 : NN n t) (hk : Kept n g t) (hx : x < n) (hy : y < n) (ne : y ≠ x) (ha : Va ta σ H (.ref a)) (hb : Va tb σ H (.ref b)) (h1 : Va tx σ H (.int (x : Int))) (h2 : Va ty σ H (.int (y : Int))) :
    Al (tCall (spRoomOf K) [] E0 (tCons ta (tCons tb (tCons tx (tCons ty tNil))))) σ H (fun v _ => v = oV (roomF n g t x y)) := al_call (vs_cons ha (vs_cons hb (vs_cons h1 (vs_cons h2 vs_nil)))) fun Q E q => ⟨n, a, b, g, t, x, y, rfl, hT, h0, hk, hx, hy, ne, q⟩
theorem al_roomTable {σ : L2.St} {H : Hp} {n : Nat} {a b : Addr} {g : Gr} {t : Nat → Int} {ta tb : TE} (hT : TKT K H n a b g t) (ha : Va ta σ H (.ref a)) (hb : Va tb σ H (.ref b)) : Al (tCall (spRoomTable K) [] E0 (tCons ta (tCons tb tNil))) σ H (IsTR K n n (oI (roomF n g t))) :=
  al_call (vs_cons ha (vs_cons hb vs_nil)) fun Q E q => ⟨n, a, b, g, t, rfl, hT.tw, hT.nn, hT.kept, q⟩
theorem al_rooms {σ : L2.St} {H : Hp} {n : Nat} {a b : Addr} {g : Gr} {t : Nat → Int} {ta tb : TE} (hT : TK K H n a b g t) (ha : Va ta σ H (.ref a)) (hb : Va tb σ H (.ref b)) : Al (tCall (spRooms K) [] E0 (tCons ta (tCons tb tNil))) σ H (IsTR K n n (oI (roomF n g t))) :=
  al_call (vs_cons ha (vs_cons hb vs_nil)) fun Q E q => ⟨n, a, b, g, t, rfl, hT, q⟩
end
end K45
set_option Elab.async false
set_option linter.all false
set_option maxRecDepth 100000
set_option maxHeartbeats 200000
namespace K45
open PySem PySem.Spec PyProof.Rows L2
abbrev s__law_all : Stmt := topS 77
theorem sc__law_all : FnScope ["_law_g", "_law_t", "_law_first", "_law_b", "_law_pairs", "_law_put_here", "_law_x", "_law_y", "_law_room", "_law_rooms_here", "_law_own", "_law_k"] ["_law_g", "_law_t", "_law_first"] (defScope s__law_all) := ⟨rfl, rfl, rfl, by decide +kernel, rfl, by decide +kernel, by decide +kernel⟩
def t__law_all (K : PySem.W.Frag) (sp__law_rooms sp__law_same sp_room_of sp__law_put sp_room_table sp_is_kept sp_is_bare sp__law_is_bare : Sp) : TS := (tSeq (tAsg (tCB (cLen K) (tCons (tVar 0) tNil)) (gName 3))
    (tSeq (tAsg (tLc (iRng1 (tCons (tOp rMul (tVar 3) (tVar 3)) tNil)) (gName 11) tYes (tTup (tCons (tOp rFdv (tVar 11) (tVar 3)) (tCons (tOp rMod (tCB cInt (tCons (tVar 11) tNil)) (tVar 3)) tNil))) [11]) (gName 4))
    (tSeq (tAsg (tOp rCat (tSl (rSlL K) (tVar 4) (tPart (tVar 2)) tNoPart) (tSl (rSlL K) (tVar 4) tNoPart (tPart (tVar 2)))) (gName 4))
    (tSeq (tAsg (tLst tNil) (gName 5))
    (tSeq (tFor (iList K (tVar 4)) (gTup K 2 (gCons (gName 6) (gCons (gName 7) gNil))) (tIfS (tTest (tOp rNe (tVar 6) (tVar 7))) (tSeq (tAsg (tOp (rIx K) (tOp (rIx K) (tCall sp__law_rooms [] E0 (tCons (tVar 0) (tCons (tVar 1) tNil))) (tVar 6)) (tVar 7)) (gName 8))
    (tSeq (tIfS (tNot (tB (tCall sp__law_same [] E0 (tCons (tCall sp_room_of [] E0 (tCons (tVar 0) (tCons (tVar 1) (tCons (tVar 6) (tCons (tVar 7) tNil))))) (tCons (tVar 8) tNil))))) (tRet (tC (.bl false))) tNext)
    (tIfS (tTest (tOp kNotN (tVar 8) (tC .non))) (tSeq (tAsg (tCall sp__law_put [] E0 (tCons (tVar 0) (tCons (tVar 6) (tCons (tVar 7) (tCons (tVar 8) tNil))))) (gName 0))
    (tDrop (tBM K "list" rAppend (tVar 5) (tCons (tTup (tCons (tVar 6) (tCons (tVar 7) (tCons (tVar 8) tNil)))) tNil)))) tNext))) tNext))
    (tSeq (tAsg (tCall sp_room_table [] E0 (tCons (tVar 0) (tCons (tVar 1) tNil))) (gName 9))
    (tSeq (tAsg (tCall sp__law_rooms [] E0 (tCons (tVar 0) (tCons (tVar 1) tNil))) (gName 10))
    (tSeq (tIfS (tOr (tNot (tB (tCall sp__law_same [] E0 (tCons (tVar 9) (tCons (tVar 10) tNil))))) (tNot (tB (tCall sp__law_same [] E0 (tCons (tCall sp_is_kept [] E0 (tCons (tVar 0) (tCons (tVar 1) tNil))) (tCons (tC (.bl true)) tNil)))))) (tRet (tC (.bl false))) tNext)
    (tSeq (tFor (iList K (tVar 5)) (gTup K 3 (gCons (gName 6) (gCons (gName 7) (gCons (gName 8) gNil)))) (tIfS (tTest (tOp rNe (tOp (rIx K) (tOp (rIx K) (tVar 9) (tVar 6)) (tVar 7)) (tVar 8))) (tRet (tC (.bl false))) tNext))
    (tRet (tCall sp__law_same [] E0 (tCons (tCall sp_is_bare [] E0 (tCons (tVar 0) (tCons (tVar 1) tNil))) (tCons (tCall sp__law_is_bare [] E0 (tCons (tVar 0) (tCons (tVar 1) (tCons (tVar 10) tNil)))) tNil)))))))))))))
theorem d__law_all {P : Program} {w : World} {K : PySem.W.Frag} {mg : Str → Option Value} {base : Heap} (B : Bif mg) {sp__law_rooms sp__law_same sp_room_of sp__law_put sp_room_table sp_is_kept sp_is_bare sp__law_is_bare : Sp} (c__law_rooms : Cal P w K mg base 2 "_law_rooms" ["_law_g", "_law_t"] sp__law_rooms) (c__law_same : Cal P w K mg base 4 "_law_same" ["_law_thing", "_law_due"] sp__law_same) (c_room_of : Cal P w K mg base 6 "room_of" ["table", "waits", "door", "other"] sp_room_of) (c__law_put : Cal P w K mg base 1 "_law_put" ["_law_g", "_law_x", "_law_y", "_law_entry"] sp__law_put) (c_room_table : Cal P w K mg base 4 "room_table" ["table", "waits"] sp_room_table) (c_is_kept : Cal P w K mg base 5 "is_kept" ["table", "waits"] sp_is_kept) (c_is_bare : Cal P w K mg base 4 "is_bare" ["table", "waits"] sp_is_bare) (c__law_is_bare : Cal P w K mg base 2 "_law_is_bare" ["_law_g", "_law_t", "_law_rooms_here"] sp__law_is_bare) {f : Addr} {cdv : Value} {A : Around} {outer : List Env} {s : Shared} {H : Hp} {E : XK} (hr : Room 6 (A.deeper (envOfC "_law_all" (defScope s__law_all) s.heap.objs.size f cdv))) :
    PSs (cxOf CX0 P w K mg base ["_law_g", "_law_t", "_law_first", "_law_b", "_law_pairs", "_law_put_here", "_law_x", "_law_y", "_law_room", "_law_rooms_here", "_law_own", "_law_k"] "_law_all" (defScope s__law_all) f cdv A outer s H E).nox (defBody s__law_all) (t__law_all K sp__law_rooms sp__law_same sp_room_of sp__law_put sp_room_table sp_is_kept sp_is_bare sp__law_is_bare) := by
  have nd := sc__law_all.nd
  exact (pss_cons (ps_set (i := 3) nd rfl (Or.inr rfl) (pe_callB k_len (by rfl) B.len_ (by decide +kernel) (pa_cons (pv 0) pa_nil)))
      (pss_cons (ps_setLc (i := 4) (own := [("_law_k", 11)]) rfl nd rfl rfl (sw_true rfl rfl rfl (by decide +kernel)) (pi_range1 (by rfl) B.range_ (pa_cons (pe_op k_mul (pv 3) (pv 3)) pa_nil)) (blkOk_by (own := [("_law_k", 11)]) (by kernel_rfl)) (fun _ _ _ _ _ => (pg_name (i := 11) nd rfl (Or.inl rfl))) (fun _ _ _ _ _ => pts_nil) (fun _ _ _ _ _ => (pe_tup (pa_cons (pe_op k_fdv (pv 11) (pv 3)) (pa_cons (pe_op k_mod (pe_callTy k_int (by rfl) B.int_ (by decide +kernel) (pa_cons (pv 11) pa_nil)) (pv 3)) pa_nil)))))
      (pss_cons (ps_set (i := 4) nd rfl (Or.inl rfl) (pe_op op_cat (pe_slice sl_list (pv 4) (po_some (pv 2)) po_none) (pe_slice sl_list (pv 4) po_none (po_some (pv 2)))))
      (pss_cons (ps_set (i := 5) nd rfl (Or.inl rfl) (pe_lst pa_nil))
      (pss_cons (ps_for PassesOwn.never rfl (pi_list (pv 4)) (pg_tup rfl (pgs_cons (pg_name (i := 6) nd rfl (Or.inl rfl)) (pgs_cons (pg_name (i := 7) nd rfl (Or.inl rfl)) pgs_nil))) (pss_one (ps_if (pt_cmpR op_ne (pv 6) (pv 7) (nomark _)) (pss_cons (ps_set (i := 8) nd rfl (Or.inl rfl) (pe_ix ix_seq (pe_ix ix_seq (pe_cal c__law_rooms hr (by decide) (by rfl) (pa_cons (pv 0) (pa_cons (pv 1) pa_nil))) (pv 6) (fun _ _ => rfl)) (pv 7) (fun _ _ => rfl)))
      (pss_cons (ps_if (pt_not (pt_val (pe_cal c__law_same hr (by decide) (by rfl) (pa_cons (pe_cal c_room_of hr (by decide) (by rfl) (pa_cons (pv 0) (pa_cons (pv 1) (pa_cons (pv 6) (pa_cons (pv 7) pa_nil))))) (pa_cons (pv 8) pa_nil))))) (pss_one (ps_ret pe_bl)) pss_nil)
      (pss_one (ps_if (pt_cmpR k_notN (pv 8) pe_non (nomark _)) (pss_cons (ps_set (i := 0) nd rfl (Or.inl rfl) (pe_cal c__law_put hr (by decide) (by rfl) (pa_cons (pv 0) (pa_cons (pv 6) (pa_cons (pv 7) (pa_cons (pv 8) pa_nil))))))
      (pss_one (ps_expr (pe_bm PySem.F.plainAttrs_list PySem.F.slot_list_append PySem.F.type_list_append mt_append (pv 5) (pa_cons (pe_tup (pa_cons (pv 6) (pa_cons (pv 7) (pa_cons (pv 8) pa_nil)))) pa_nil))))) pss_nil)))) pss_nil)))
      (pss_cons (ps_set (i := 9) nd rfl (Or.inl rfl) (pe_cal c_room_table hr (by decide) (by rfl) (pa_cons (pv 0) (pa_cons (pv 1) pa_nil))))
      (pss_cons (ps_set (i := 10) nd rfl (Or.inl rfl) (pe_cal c__law_rooms hr (by decide) (by rfl) (pa_cons (pv 0) (pa_cons (pv 1) pa_nil))))
      (pss_cons (ps_if (PW.pt (pw_or (pt_not (pt_val (pe_cal c__law_same hr (by decide) (by rfl) (pa_cons (pv 9) (pa_cons (pv 10) pa_nil))))) (pw_or1 (pt_not (pt_val (pe_cal c__law_same hr (by decide) (by rfl) (pa_cons (pe_cal c_is_kept hr (by decide) (by rfl) (pa_cons (pv 0) (pa_cons (pv 1) pa_nil))) (pa_cons pe_bl pa_nil)))))))) (pss_one (ps_ret pe_bl)) pss_nil)
      (pss_cons (ps_for PassesOwn.never rfl (pi_list (pv 5)) (pg_tup rfl (pgs_cons (pg_name (i := 6) nd rfl (Or.inl rfl)) (pgs_cons (pg_name (i := 7) nd rfl (Or.inl rfl)) (pgs_cons (pg_name (i := 8) nd rfl (Or.inl rfl)) pgs_nil)))) (pss_one (ps_if (pt_cmpR op_ne (pe_ix ix_seq (pe_ix ix_seq (pv 9) (pv 6) (fun _ _ => rfl)) (pv 7) (fun _ _ => rfl)) (pv 8) (nomark _)) (pss_one (ps_ret pe_bl)) pss_nil)))
      (pss_one (ps_ret (pe_cal c__law_same hr (by decide) (by rfl) (pa_cons (pe_cal c_is_bare hr (by decide) (by rfl) (pa_cons (pv 0) (pa_cons (pv 1) pa_nil))) (pa_cons (pe_cal c__law_is_bare hr (by decide) (by rfl) (pa_cons (pv 0) (pa_cons (pv 1) (pa_cons (pv 10) pa_nil)))) pa_nil))))))))))))))

section
variable {P : Program} {w : World} {K : PySem.W.Frag} {mg : Str → Option Value} {base : Heap}
/-- a list of pairs of doors -/
def PL (K : PySem.W.Frag) (H : Hp) (n : Nat) (zs : List V) : Prop := ∀ v, v ∈ zs → ∃ (T : Addr) (x y : Nat), v = .ref T ∧ SqT K H T [.int (x : Int), .int (y : Int)] ∧ x < n ∧ y < n
theorem PL.mono {H H' : Hp} {n : Nat} {zs : List V} (h : PL K H n zs) (S : Same H H') : PL K H' n zs := fun v hv => by
  obtain ⟨T, x, y, e, h1, h2⟩ := h v hv
  exact ⟨T, x, y, e, S.t h1, h2⟩
/-- xs[lo:hi], a new list -/
theorem al_slice {σ : L2.St} {H : Hp} {te : TE} {a : Addr} {xs : List V} {tl th : TO} {lo hi : Option Int} (h : Va te σ H (.ref a)) (hx : SqL K H a xs) (hl : ∀ Q : Option Int → Hp → Prop, Q lo H → tl σ H Q) (hh : ∀ Q : Option Int → Hp → Prop, Q hi H → th σ H Q) : Al (tSl (rSlL K) te tl th) σ H (IsNewL H (cutV xs lo hi)) := fun Q q =>
  h _ (hl _ (hh _ ⟨a, xs, rfl, hx, fun p hp => q _ _ (same_new hp) ⟨p, rfl, hp, upd_same⟩⟩))
def spAll (K : PySem.W.Frag) : Sp := fun vs H Q _ => ∃ (n : Nat) (a b : Addr) (g : Gr) (t : Nat → Int) (f : Int), vs = [.ref a, .ref b, .int f] ∧ TKT K H n a b g t ∧ 2 ≤ n ∧ Ret (fun v _ => v = .bl true) H Q
set_option maxHeartbeats 1000000 in
theorem cal__law_all (T : Txt K mg) : Cal P w K mg base 7 "_law_all" ["_law_g", "_law_t", "_law_first"] (spAll K) := by
  refine T._law_all.cal sc__law_all (fun vs H Q E h => ?_) (fun fa cdv A outer s H vs Q E hr h => ⟨_, d__law_all T.B (cal__law_rooms T) (cal__law_same T 3) (cal_room_of T) (cal__law_put T) (cal_room_table T) (cal_is_kept T) (cal_is_bare T) (cal__law_is_bare T) hr, ?_⟩)
  · obtain ⟨n, a, b, g, t, f, rfl, _⟩ := h; rfl
  obtain ⟨n, a, b, g, t, f, rfl, hT, h2, q⟩ := h
  have hn := hT.le
  have h1 := hT.one
  unfold t__law_all
  refine q_asg (v := .int (n : Int)) (va_cb (vs_cons (va_var rfl) vs_nil) (vc_lenTT hT.tab)) ?_
  have hnn : n * n ≤ 60 * 60 := Nat.mul_le_mul hn hn
  refine q_asgA (al_lcN (n := n * n) (fun k => .tup [.int ((k / n : Nat) : Int), .int ((k % n : Nat) : Int)]) (src_R (n := n * n) (vs_cons (va_is (va_op (va_var rfl) (va_var rfl) (vr_mul (.inl ⟨by omega, by omega⟩))) (congrArg V.int (Int.natCast_mul n n).symm)) vs_nil) (by omega)) (fun _ => rfl) (by omega) fun k H1 hk S1 => Al.imp (al_tup (vs := [.int ((k / n : Nat) : Int), .int ((k % n : Nat) : Int)]) (vs_cons (va_is (va_op (va_var rfl) (va_var rfl) (vr_fdv (by constructor <;> omega))) (congrArg V.int (Int.natCast_ediv k n).symm)) (vs_cons (va_is (va_op (va_cb (vs_cons (va_var rfl) vs_nil) vc_int) (va_var rfl) (vr_mod (by omega))) (congrArg V.int (Int.natCast_emod k n).symm)) vs_nil))) fun v H2 _ ⟨p, e1, e2, e3⟩ => ⟨p, e1, e2, e3⟩) fun v H1 S1 ⟨pA, pd, ev, npA, hpA, hpd, _⟩ => ?_
  subst ev
  have hPL : PL K H1 n (tab (n * n) fun k => .ref (pd k)) := fun v hv => by
    unfold tab at hv
    obtain ⟨k, hk, ek⟩ := List.mem_map.mp hv
    have hk := List.mem_range.mp hk
    exact ⟨pd k, k / n, k % n, ek.symm, SqT.of (hpd k hk), Nat.div_lt_of_lt_mul hk, Nat.mod_lt _ (by omega)⟩
  refine q_asgA (P := fun v H2 => ∃ zA zs, v = .ref zA ∧ H2 zA = some (.lst zs) ∧ PL K H2 n zs ∧ zs.length ≤ 8000) (Al.imp (al_cat (al_slice (lo := some f) (hi := none) (va_var rfl) (SqL.of hpA) (fun Q q => va_var (v := .int f) rfl _ ⟨f, rfl, q⟩) (fun Q q => q)) (fun H2 S2 => al_slice (lo := none) (hi := some f) (va_var rfl) (SqL.of (S2 _ _ hpA)) (fun Q q => q) (fun Q q => va_var (v := .int f) rfl _ ⟨f, rfl, q⟩)) ?_) fun v H2 S2 ⟨zA, ev, _, hz⟩ => ⟨zA, _, ev, hz, fun v hv => (hPL.mono S2) v ((List.mem_append.mp hv).elim cut_mem cut_mem), ?_⟩) fun v H2 S2 ⟨zA, zs, ev, hz, hPz, hlz⟩ => ?_
  · have e1 := cutV_length (tab (n * n) fun k => V.ref (pd k)) (some f) none
    have e2 := cutV_length (tab (n * n) fun k => V.ref (pd k)) none (some f)
    rw [tab_len] at e1 e2
    omega
  · have e1 := cutV_length (tab (n * n) fun k => V.ref (pd k)) (some f) none
    have e2 := cutV_length (tab (n * n) fun k => V.ref (pd k)) none (some f)
    rw [tab_len] at e1 e2
    rw [List.length_append]
    omega
  subst ev
  refine q_asgA (al_lst (vs := []) vs_nil) fun v H3 S3 ⟨L, ev, nL, hL⟩ => ?_
  subst ev
  have hz3 := S3 _ _ hz
  have hPz3 := hPz.mono S3
  have sk : ∀ k, ∃ q : Addr × Nat × Nat, k < zs.length → zs.getD k .non = .ref q.1 ∧ SqT K H3 q.1 [.int (q.2.1 : Int), .int (q.2.2 : Int)] ∧ q.2.1 < n ∧ q.2.2 < n := fun k => by
    by_cases hk : k < zs.length
    · obtain ⟨T', x, y, e, h1, h2, h3⟩ := hPz3 (zs.getD k .non) (by rw [List.getD, List.getElem?_eq_getElem hk]; exact List.getElem_mem hk)
      exact ⟨(T', x, y), fun _ => ⟨e, h1, h2, h3⟩⟩
    · exact ⟨(0, 0, 0), fun h => absurd h hk⟩
  obtain ⟨qf, hqf⟩ := Classical.skolem.mp sk
  have hzt : zs = tab zs.length fun k => .ref (qf k).1 := (list_tab zs).trans (tab_congr fun k hk => (hqf k hk).1)
  have S03 := (S1.trans S2).trans S3
  have nLH : H L = none := (S1.trans S2).none nL
  refine q_forLP (n := zs.length) (td := fun k => (qf k).1) (x := fun k => .int ((qf k).2.1 : Int)) (y := fun k => .int ((qf k).2.2 : Int)) (va_var rfl) (fun k σ' H' => ∃ (a' : Addr) (g' : Gr) (v6 v7 v8 : Option V) (Ls : List (Nat × Nat × Int)) (pd2 : Nat → Addr), σ' = [some (.ref a'), some (.ref b), some (.int f), some (.int (n : Int)), some (.ref zA), some (.ref L), v6, v7, v8, none, none, none] ∧ SX [L] H3 H' ∧ TKT K H' n a' b g' t ∧ Puts n g' t Ls ∧ Ls.length ≤ k ∧ H' L = some (.lst (tab Ls.length fun i => .ref (pd2 i))) ∧
      ∀ i, i < Ls.length → SqT K H' (pd2 i) [.int ((Ls.getD i (0, 0, 0)).1 : Int), .int ((Ls.getD i (0, 0, 0)).2.1 : Int), .int (Ls.getD i (0, 0, 0)).2.2])
    ⟨a, g, none, none, none, [], fun _ => 0, rfl, .of (Same.refl _), hT.mono S03, (fun q hq => by cases hq), Nat.le_refl _, hL, fun i hi => absurd hi (Nat.not_lt_zero i)⟩ (fun k σ' H' ⟨a', g', v6, v7, v8, Ls, pd2, es, S, _⟩ => ⟨SqL.of (by rw [← hzt]; exact S.at (by intro z; rw [List.mem_singleton.mp z, hL] at hz3; cases hz3; exact absurd (List.mem_singleton.mp z) (ne_of_none hz nL)) hz3), fun k hk => S.t (hqf k hk).2.1⟩) (fun k σ' H' hk ⟨a', g', v6, v7, v8, Ls, pd2, es, S, hT', hP, hlen, hL', hpd2⟩ => ?_) (fun σ' H' ⟨a', g', v6, v7, v8, Ls, pd2, es, S, hT', hP, hlen, hL', hpd2⟩ => ?_)
  · subst es
    obtain ⟨_, _, hx, hy⟩ := hqf k hk
    generalize (qf k).2.1 = x at hx ⊢
    generalize (qf k).2.2 = y at hy ⊢
    by_cases hxy : x = y
    · exact st_ifF (vt_is (vt_ne (va_var rfl) (va_var rfl)) (by rw [decide_eq_true hxy]; rfl)) ⟨a', g', _, _, v8, Ls, pd2, rfl, S, hT', hP, by omega, hL', hpd2⟩
    have ne : y ≠ x := fun z => hxy z.symm
    refine st_ifT (vt_is (vt_ne (va_var rfl) (va_var rfl)) (by rw [decide_eq_false hxy]; rfl)) ?_
    refine q_asgA (al_roomAt hT'.tk hx hy (va_var rfl) (va_var rfl) (fun _ _ => va_var rfl) (fun _ _ => va_var rfl)) fun v H4 S4 ev => ?_
    subst ev
    have hT4 := hT'.mono S4
    refine q_ifFAn (at_same (al_roomOf hT4.tw hT4.nn hT4.kept hx hy ne (va_var rfl) (va_var rfl) (va_var rfl) (va_var rfl)) fun v H5 S5 ev => ⟨oV (roomF n g' t x y), va_var rfl, by rw [ev]; exact sameO _⟩) fun H5 S5 => ?_
    have hT5 := hT4.mono S5
    have S45 := S4.trans S5
    cases cr : roomF n g' t x y with
    | none =>
      refine st_ifF (vt_test (va_op (va_var (v := .non) rfl) va_c vr_notNn)) ⟨a', g', _, _, _, Ls, pd2, rfl, S.same S45, hT5, hP, by omega, S45 _ _ hL', fun i hi => S45.t (hpd2 i hi)⟩
    | some rm =>
      obtain ⟨s, hs, ers⟩ := room_some ne cr
      subst ers
      refine st_ifT (vt_test (va_op (va_var (v := .int (t x - s)) rfl) va_c vr_notNi)) ?_
      refine q_asgA (al_put (n := n) (g := g') (x := x) (y := y) (e := some (t x - s)) hT5.tab (by omega) hx hy (va_var rfl) (va_var rfl) (va_var rfl) (va_var (v := .int (t x - s)) rfl)) fun v H6 S6 ⟨a2, ev, hf⟩ => ?_
      subst ev
      have hL6 := S6 _ _ (S45 _ _ hL')
      refine st_appA (va_var rfl) (al_tup (vs := [.int (x : Int), .int (y : Int), .int (t x - s)]) (vs_cons (va_var rfl) (vs_cons (va_var rfl) (vs_cons (va_var rfl) vs_nil)))) hL6 (by rw [tab_len]; omega) fun v H7 S7 ⟨tt, ev, ntt, htt⟩ => ?_
      subst ev
      have hL7 := S7 _ _ hL6
      have Sx : SX [L] H3 (upd H7 L (.lst ((tab Ls.length fun i => .ref (pd2 i)) ++ [.ref tt]))) := (((S.same S45).same S6).same S7).put (List.mem_singleton.mpr rfl) hL7
      have Sy : SX [L] H' (upd H7 L (.lst ((tab Ls.length fun i => .ref (pd2 i)) ++ [.ref tt]))) := (SX.of ((S45.trans S6).trans S7)).put (List.mem_singleton.mpr rfl) hL7
      have Sz : SX [L] H7 (upd H7 L (.lst ((tab Ls.length fun i => .ref (pd2 i)) ++ [.ref tt]))) := (SX.of (Same.refl _)).put (List.mem_singleton.mpr rfl) hL7
      refine ⟨a2, full g' t x y s, _, _, _, Ls ++ [(x, y, t x - s)], up pd2 Ls.length tt, rfl, Sx, ⟨Sz.tt (S7.tt hf), Sy.t hT'.wai, h1, hn, full_kept h1 hT'.kept hx hy hs, hT'.nn, put_dg ne hT'.dg⟩, puts_add h1 hT'.kept hx hy ne hs hP, by rw [List.length_append]; show Ls.length + 1 ≤ _; omega, ?_, fun i hi => ?_⟩
      · rw [upd_same, List.length_append, show Ls.length + [(x, y, t x - s)].length = Ls.length + 1 from rfl, tab_succ, up_same]
        exact congrArg (fun l => some (HO.lst (l ++ [V.ref tt]))) (tab_congr fun i hi => by rw [up_ne (Nat.ne_of_lt hi)])
      · rw [List.length_append] at hi
        by_cases c : i = Ls.length
        · subst c
          rw [up_same, show (Ls ++ [(x, y, t x - s)]).getD Ls.length (0, 0, 0) = (x, y, t x - s) by simp [List.getD]]
          exact Sz.t (SqT.of htt)
        · have hil : i < Ls.length := by have : [(x, y, t x - s)].length = 1 := rfl; omega
          rw [up_ne c, show (Ls ++ [(x, y, t x - s)]).getD i (0, 0, 0) = Ls.getD i (0, 0, 0) by simp [List.getD, List.getElem?_append_left hil]]
          exact Sy.t (hpd2 i hil)
  · subst es
    have SH : Same H H' := S.after S03 fun b hb => by rw [List.mem_singleton.mp hb]; exact nLH
    refine q_asgA (al_roomTable hT' (va_var rfl) (va_var rfl)) fun v H4 S4 ⟨rh, ev, hrh⟩ => ?_
    subst ev
    have hT4 := hT'.mono S4
    refine q_asgA (al_rooms hT4.tk (va_var rfl) (va_var rfl)) fun v H5 S5 ⟨ow, ev, how⟩ => ?_
    subst ev
    have hT5 := hT4.mono S5
    have hrh5 := S5.tt hrh
    refine q_ifFAn (at_orF (at_same (al_va (va_var (v := .ref rh) rfl)) fun v H6 S6 ev => ⟨.ref ow, va_var rfl, by rw [ev]; exact sameTR (S6.tt hrh5) (S6.tt how) (by omega)⟩) fun H6 S6 => at_same (al_isKept (hT5.mono S6).tw hT5.nn (va_var rfl) (va_var rfl)) fun v H7 S7 p => IsB.same (H := H7) p hT5.kept) fun H6 S6 => ?_
    have hT6 := hT5.mono S6
    have hrh6 := S6.tt hrh5
    have S46 := (S4.trans S5).trans S6
    obtain ⟨rd, r1, r2⟩ := hrh6
    refine q_forLT (n := Ls.length) (td := pd2) (x := fun i => .int ((Ls.getD i (0, 0, 0)).1 : Int)) (y := fun i => .int ((Ls.getD i (0, 0, 0)).2.1 : Int)) (z := fun i => .int (Ls.getD i (0, 0, 0)).2.2) (va_var rfl) (fun i σ' H'' => ∃ v6 v7 v8, σ' = [some (.ref a'), some (.ref b), some (.int f), some (.int (n : Int)), some (.ref zA), some (.ref L), v6, v7, v8, some (.ref rh), some (.ref ow), none] ∧ H6 = H'') ⟨v6, v7, v8, rfl, rfl⟩ (fun i σ' H'' ⟨_, _, _, _, eH⟩ => by subst eH; exact ⟨SqL.of (S46 _ _ hL'), fun k hk => S46.t (hpd2 k hk)⟩) (fun i σ' H'' hi ⟨v6, v7, v8, es, eH⟩ => ?_) (fun σ' H'' ⟨v6, v7, v8, es, eH⟩ => ?_)
    · subst es eH
      have hm : Ls.getD i (0, 0, 0) ∈ Ls := by rw [List.getD, List.getElem?_eq_getElem hi]; exact List.getElem_mem hi
      obtain ⟨p1, p2, p3, p4, p5⟩ := hP _ hm
      generalize Ls.getD i (0, 0, 0) = e at p1 p2 p3 p4 p5 ⊢
      refine st_ifF (vt_is (vt_test (va_op (va_is (va_op (va_op (va_var rfl) (va_var rfl) (vr_xTt (f := fun i => .ref (rd i)) r1 p1)) (va_var rfl) (vr_xTt (f := fun j => oV (roomF n g' t e.1 j)) (r2 e.1 p1) p2)) (oV_some p5)) (va_var rfl) vr_neI)) (by rw [decide_eq_true rfl]; rfl)) ⟨_, _, _, rfl, rfl⟩
    · subst es eH
      have hT6r : TKR K H6 n a' b ow g' t := hT6.tkr (S6.tt how)
      refine st_retA (al_callA (Pa := fun vs H7 => ∃ v1 v2, vs = [v1, v2] ∧ IsB (Bare n g' t) v1 H7 ∧ IsB (Bare n g' t) v2 H7) (P := fun v _ => v = .bl true) (ac_cons (Pr := fun _ _ => True) (al_isBare hT6.tw hT6.nn (va_var rfl) (va_var rfl)) fun v1 H7 S7 p1 => ac_cons (Pr := fun _ _ => True) (al_call (P := IsB (Bare n g' t)) (vs_cons (va_var rfl) (vs_cons (va_var rfl) (vs_cons (va_var rfl) vs_nil))) fun Q E r => ⟨n, a', b, ow, g', t, rfl, hT6r.mono S7, r⟩) fun v2 H8 S8 p2 => fun Q9 q9 => q9 [] H8 (Same.refl _) ⟨v1, v2, rfl, p1, p2⟩) fun vs H7 S7 ⟨v1, v2, evs, ⟨c1, e1, i1⟩, ⟨c2, e2, i2⟩⟩ Q E r => ⟨v1, v2, evs, ?_, r⟩) fun v H7 S7 e => q v H7 ((SH.trans S46).trans S7) e
      subst e1 e2
      have : c1 = c2 := by
        cases c1 <;> cases c2
        · rfl
        · exact absurd (i1.mpr (i2.mp rfl)) (by simp)
        · exact absurd (i2.mpr (i1.mp rfl)) (by simp)
        · rfl
      subst this
      exact .bl c1
end
end K45
set_option Elab.async false
set_option linter.all false
set_option maxRecDepth 100000
set_option maxHeartbeats 200000
namespace K45
open PySem PySem.Spec PyProof.Rows L2
abbrev s__law_draws : Stmt := topS 56
theorem sc__law_draws : FnScope ["_law_script", "_law_one", "_law_two", "_law_digits", "_law_k", "_law_cell", "_law_j", "_law_mixed"] ["_law_script"] (defScope s__law_draws) := ⟨rfl, rfl, rfl, by decide +kernel, rfl, by decide +kernel, by decide +kernel⟩
def t__law_draws (K : PySem.W.Frag) : TS := (tSeq (tAsg (tC (.int 1142)) (gName 1))
    (tSeq (tAsg (tC (.int 30011)) (gName 2))
    (tSeq (tAsg (tLst tNil) (gName 3))
    (tSeq (tFor (iRng1 (tCons (tCB (cLen K) (tCons (tVar 0) tNil)) tNil)) (gName 4) (tSeq (tAsg (tCB cInt (tCons (tOp (rIx K) (tVar 0) (tVar 4)) tNil)) (gName 5))
    (tSeq (tAsg (tOp rMod (tCB cInt (tCons (tOp rAdd (tOp rAdd (tOp rMul (tVar 1) (tC (.int 1931))) (tOp rMod (tCB cInt (tCons (tVar 5) tNil)) (tC (.int 1000000009)))) (tOp rMul (tC (.int 7)) (tVar 4))) tNil)) (tC (.int 2147483549))) (gName 1))
    (tSeq (tAsg (tCB cAbs (tCons (tVar 5) tNil)) (gName 5))
    (tFor (iRng1 (tCons (tOp rMul (tC (.int 58)) (tCB cInt (tCons (tOp rGe (tVar 5) (tC (.int 1000000000000000000))) tNil))) tNil)) (gName 6) (tIfS (tTest (tOp rGt (tVar 5) (tC (.int 0)))) (tSeq (tDrop (tBM K "list" rAppend (tVar 3) (tCons (tOp rMod (tCB cInt (tCons (tVar 5) tNil)) (tC (.int 991))) tNil)))
    (tAsg (tOp rFdv (tVar 5) (tC (.int 991))) (gName 5))) tNext))))))
    (tSeq (tAsg (tLst tNil) (gName 7))
    (tSeq (tFor (iRng1 (tCons (tC (.int 190)) tNil)) (gName 4) (tSeq (tAsg (tOp rMod (tCB cInt (tCons (tOp rAdd (tOp rMul (tVar 1) (tC (.int 39373))) (tC (.int 5))) tNil)) (tC (.int 2147483647))) (gName 1))
    (tSeq (tAsg (tOp rMod (tCB cInt (tCons (tOp rAdd (tOp rAdd (tOp rMul (tVar 2) (tC (.int 40692))) (tOp rFdv (tVar 1) (tC (.int 7)))) (tOp rMul (tC (.int 3)) (tVar 4))) tNil)) (tC (.int 2147483399))) (gName 2))
    (tDrop (tBM K "list" rAppend (tVar 7) (tCons (tOp rMod (tCB cInt (tCons (tOp rAdd (tOp rFdv (tVar 1) (tC (.int 37))) (tOp rFdv (tVar 2) (tC (.int 23)))) tNil)) (tC (.int 991))) tNil))))))
    (tRet (tOp rCat (tVar 7) (tVar 3)))))))))
theorem d__law_draws {P : Program} {w : World} {K : PySem.W.Frag} {mg : Str → Option Value} {base : Heap} (B : Bif mg)  {f : Addr} {cdv : Value} {A : Around} {outer : List Env} {s : Shared} {H : Hp} {E : XK} (hr : Room 0 (A.deeper (envOfC "_law_draws" (defScope s__law_draws) s.heap.objs.size f cdv))) :
    PSs (cxOf CX0 P w K mg base ["_law_script", "_law_one", "_law_two", "_law_digits", "_law_k", "_law_cell", "_law_j", "_law_mixed"] "_law_draws" (defScope s__law_draws) f cdv A outer s H E).nox (defBody s__law_draws) (t__law_draws K ) := by
  have nd := sc__law_draws.nd
  exact (pss_cons (ps_set (i := 1) nd rfl (Or.inl rfl) pe_int)
      (pss_cons (ps_set (i := 2) nd rfl (Or.inl rfl) pe_int)
      (pss_cons (ps_set (i := 3) nd rfl (Or.inl rfl) (pe_lst pa_nil))
      (pss_cons (ps_for PassesOwn.never rfl (pi_range1 (by rfl) B.range_ (pa_cons (pe_callB k_len (by rfl) B.len_ (by decide +kernel) (pa_cons (pv 0) pa_nil)) pa_nil)) (pg_name (i := 4) nd rfl (Or.inl rfl)) (pss_cons (ps_set (i := 5) nd rfl (Or.inl rfl) (pe_callTy k_int (by rfl) B.int_ (by decide +kernel) (pa_cons (pe_ix ix_seq (pv 0) (pv 4) (fun _ _ => rfl)) pa_nil)))
      (pss_cons (ps_set (i := 1) nd rfl (Or.inl rfl) (pe_op k_mod (pe_callTy k_int (by rfl) B.int_ (by decide +kernel) (pa_cons (pe_op k_add (pe_op k_add (pe_op k_mul (pv 1) pe_int) (pe_op k_mod (pe_callTy k_int (by rfl) B.int_ (by decide +kernel) (pa_cons (pv 5) pa_nil)) pe_int)) (pe_op k_mul pe_int (pv 4))) pa_nil)) pe_int))
      (pss_cons (ps_set (i := 5) nd rfl (Or.inl rfl) (pe_callB k_abs (by rfl) B.abs_ (by decide +kernel) (pa_cons (pv 5) pa_nil)))
      (pss_one (ps_for PassesOwn.never rfl (pi_range1 (by rfl) B.range_ (pa_cons (pe_op k_mul pe_int (pe_callTy k_int (by rfl) B.int_ (by decide +kernel) (pa_cons (pe_cmpR k_ge (pv 5) pe_int (nomark _)) pa_nil))) pa_nil)) (pg_name (i := 6) nd rfl (Or.inl rfl)) (pss_one (ps_if (pt_cmpR k_gt (pv 5) pe_int (nomark _)) (pss_cons (ps_expr (pe_bm PySem.F.plainAttrs_list PySem.F.slot_list_append PySem.F.type_list_append mt_append (pv 3) (pa_cons (pe_op k_mod (pe_callTy k_int (by rfl) B.int_ (by decide +kernel) (pa_cons (pv 5) pa_nil)) pe_int) pa_nil)))
      (pss_one (ps_set (i := 5) nd rfl (Or.inl rfl) (pe_op k_fdv (pv 5) pe_int)))) pss_nil))))))))
      (pss_cons (ps_set (i := 7) nd rfl (Or.inl rfl) (pe_lst pa_nil))
      (pss_cons (ps_for PassesOwn.never rfl (pi_range1 (by rfl) B.range_ (pa_cons pe_int pa_nil)) (pg_name (i := 4) nd rfl (Or.inl rfl)) (pss_cons (ps_set (i := 1) nd rfl (Or.inl rfl) (pe_op k_mod (pe_callTy k_int (by rfl) B.int_ (by decide +kernel) (pa_cons (pe_op k_add (pe_op k_mul (pv 1) pe_int) pe_int) pa_nil)) pe_int))
      (pss_cons (ps_set (i := 2) nd rfl (Or.inl rfl) (pe_op k_mod (pe_callTy k_int (by rfl) B.int_ (by decide +kernel) (pa_cons (pe_op k_add (pe_op k_add (pe_op k_mul (pv 2) pe_int) (pe_op k_fdv (pv 1) pe_int)) (pe_op k_mul pe_int (pv 4))) pa_nil)) pe_int))
      (pss_one (ps_expr (pe_bm PySem.F.plainAttrs_list PySem.F.slot_list_append PySem.F.type_list_append mt_append (pv 7) (pa_cons (pe_op k_mod (pe_callTy k_int (by rfl) B.int_ (by decide +kernel) (pa_cons (pe_op k_add (pe_op k_fdv (pv 1) pe_int) (pe_op k_fdv (pv 2) pe_int)) pa_nil)) pe_int) pa_nil)))))))
      (pss_one (ps_ret (pe_op op_cat (pv 7) (pv 3))))))))))

section
variable {P : Program} {w : World} {K : PySem.W.Frag} {mg : Str → Option Value} {base : Heap}
/-- what stood ahead of a new list stands while that one changes -/
theorem sx_l {H H1 H' : Hp} {L a : Addr} {xs : List V} (S1 : Same H H1) (nL : H L = none) (S : SX [L] H1 H') (h : SqL K H a xs) : SqL K H' a xs := by
  rcases h with (e | ⟨o, e⟩) | h
  · exact .inl (.inl (S.at (fun z => by rw [List.mem_singleton.mp z, nL] at e; cases e) (S1 _ _ e)))
  · exact .inl (.inr ⟨o, S.at (fun z => by rw [List.mem_singleton.mp z, nL] at e; cases e) (S1 _ _ e)⟩)
  · exact .inr h
def spDraws (K : PySem.W.Frag) : Sp := fun vs H Q _ => ∃ (n : Nat) (a : Addr) (f : Nat → Int), vs = [.ref a] ∧ SqL K H a (tabI n f) ∧ n ≤ 1000 ∧ Ret (fun v H' => ∃ d, v = .ref d ∧ H d = none ∧ DL H' d) H Q
theorem cal__law_draws (T : Txt K mg) : Cal P w K mg base 1 "_law_draws" ["_law_script"] (spDraws K) := by
  refine T._law_draws.cal sc__law_draws (fun vs H Q E h => ?_) (fun fa cdv A outer s H vs Q E hr h => ⟨_, d__law_draws T.B hr, ?_⟩)
  · obtain ⟨n, a, f, rfl, _⟩ := h; rfl
  obtain ⟨n, a, f, rfl, ha, hn, q⟩ := h
  unfold t__law_draws
  refine q_asg va_c (q_asg va_c ?_)
  refine q_asgA (al_lst (vs := []) vs_nil) fun v H1 S1 ⟨L, ev, nL, hL⟩ => ?_
  subst ev
  have ha1 := S1.l ha
  refine q_forR (n := n) (vs_cons (va_cb (vs_cons (va_var rfl) vs_nil) (vc_lenLt ha1)) vs_nil) (by omega)
    (fun k σ' H' => ∃ (one : Int) (v4 v5 v6 : Option V) (ms : List Int), σ' = [some (.ref a), some (.int one), some (.int 30011), some (.ref L), v4, v5, v6, none] ∧ 0 ≤ one ∧ one < 2147483549 ∧ ms.length ≤ 58 * k ∧ SX [L] H1 H' ∧ H' L = some (.lst (ms.map V.int)))
    ⟨1142, none, none, none, [], rfl, by decide, by decide, Nat.le_refl _, .of (Same.refl _), hL⟩ (fun k σ' H' hk ⟨one, v4, v5, v6, ms, es, o0, o1, hms, S, hL'⟩ => ?_) (fun σ' H' ⟨one, v4, v5, v6, ms, es, o0, o1, hms, SL, hL'⟩ => ?_)
  · subst es
    have ha' := sx_l S1 nL S ha
    refine q_asg (v := .int (f k)) (va_cb (vs_cons (va_op (va_var rfl) (va_var rfl) (vr_xL ha' (at_tab hk))) vs_nil) vc_int) ?_
    refine q_asg (va_op (va_cb (vs_cons (va_op (va_op (va_op (va_var rfl) va_c (vr_mul (.inl ⟨by omega, by omega⟩))) (va_op (va_cb (vs_cons (va_var rfl) vs_nil) vc_int) va_c (vr_mod (by decide))) vr_add) (va_op va_c (va_var rfl) (vr_mul (.inl ⟨by omega, by omega⟩))) vr_add) vs_nil) vc_int) va_c (vr_mod (by decide))) ?_
    refine q_asg (va_cb (vs_cons (va_var rfl) vs_nil) vc_abs) ?_
    generalize hone : (one * 1931 + f k % 1000000009 + 7 * (k : Int)) % 2147483549 = one'
    have o0' : 0 ≤ one' := by rw [← hone]; exact Int.emod_nonneg _ (by decide)
    have o1' : one' < 2147483549 := by rw [← hone]; exact Int.emod_lt_of_pos _ (by decide)
    generalize (if f k < 0 then -f k else f k) = cell
    have hm : ∃ m : Nat, m ≤ 58 ∧ (58 : Int) * (if decide (1000000000000000000 ≤ cell) then 1 else 0) = (m : Int) := by
      by_cases hc : (1000000000000000000 : Int) ≤ cell
      · exact ⟨58, Nat.le_refl _, by rw [decide_eq_true hc]; rfl⟩
      · exact ⟨0, Nat.zero_le _, by rw [decide_eq_false hc]; rfl⟩
    obtain ⟨m, hm58, hm⟩ := hm
    refine st_forR (n := m) (vs_cons (va_is (va_op va_c (va_cb (vs_cons (va_op (va_var rfl) va_c vr_ge) vs_nil) vc_intB) (vr_mul (.inl ⟨by decide, by decide⟩))) (congrArg V.int hm)) vs_nil) (by omega)
      (fun i σ' H2 => ∃ (cell : Int) (v6 : Option V) (ms2 : List Int), σ' = [some (.ref a), some (.int one'), some (.int 30011), some (.ref L), some (.int (k : Int)), some (.int cell), v6, none] ∧ ms2.length ≤ 58 * k + i ∧ SX [L] H1 H2 ∧ H2 L = some (.lst (ms2.map V.int)))
      ⟨cell, v6, ms, rfl, hms, S, hL'⟩ (fun i σ' H2 hi ⟨cell, v6, ms2, es, hms2, S2, hL2⟩ => ?_) (fun σ' H2 ⟨cell, v6, ms2, es, hms2, S2, hL2⟩ => ?_)
    · subst es
      refine st_if (vt_test (va_op (va_var rfl) va_c vr_gt)) (fun hc => ?_) (fun hc => ?_)
      · refine q_app (v := .int (cell % 991)) (va_var rfl) (va_op (va_cb (vs_cons (va_var rfl) vs_nil) vc_int) va_c (vr_mod (by decide))) hL2 (by rw [List.length_map]; omega) ?_
        refine st_asg (va_op (va_var rfl) va_c (vr_fdv (by decide))) ?_
        exact ⟨cell / 991, some (.int (i : Int)), ms2 ++ [cell % 991], rfl, by rw [List.length_append, List.length_singleton]; omega, S2.put (List.mem_singleton.mpr rfl) hL2, by rw [upd_same, List.map_append]; rfl⟩
      · exact ⟨cell, some (.int (i : Int)), ms2, rfl, by omega, S2, hL2⟩
    · subst es
      exact ⟨one', some (.int (k : Int)), some (.int cell), v6, ms2, rfl, o0', o1', by omega, S2, hL2⟩
  · subst es
    refine q_asgA (al_lst (vs := []) vs_nil) fun v H3 S3 ⟨M, ev, nM, hM⟩ => ?_
    subst ev
    have hL3 := S3 _ _ hL'
    have hML : L ∉ [M] := fun z => by rw [List.mem_singleton.mp z] at hL'; rw [nM] at hL'; cases hL'
    refine q_forR (n := 190) (vs_cons va_c vs_nil) (by omega)
      (fun k σ' H' => ∃ (one two : Int) (v4 : Option V) (ns : List Int), σ' = [some (.ref a), some (.int one), some (.int two), some (.ref L), v4, v5, v6, some (.ref M)] ∧ 0 ≤ one ∧ one < 2147483647 ∧ 0 ≤ two ∧ two < 2147483399 ∧ ns.length = k ∧ SX [M] H3 H' ∧ H' M = some (.lst (ns.map V.int)))
      ⟨one, 30011, v4, [], rfl, o0, by omega, by decide, by decide, rfl, .of (Same.refl _), hM⟩ (fun k σ' H' hk ⟨one, two, v4, ns, es, o0, o1, t0, t1, hns, S, hM'⟩ => ?_) (fun σ' H' ⟨one, two, v4, ns, es, o0, o1, t0, t1, hns, S, hM'⟩ => ?_)
    · subst es
      refine q_asg (va_op (va_cb (vs_cons (va_op (va_op (va_var rfl) va_c (vr_mul (.inl ⟨by omega, by omega⟩))) va_c vr_add) vs_nil) vc_int) va_c (vr_mod (by decide))) ?_
      generalize hone : (one * 39373 + 5) % 2147483647 = one'
      have o0' : 0 ≤ one' := by rw [← hone]; exact Int.emod_nonneg _ (by decide)
      have o1' : one' < 2147483647 := by rw [← hone]; exact Int.emod_lt_of_pos _ (by decide)
      refine q_asg (va_op (va_cb (vs_cons (va_op (va_op (va_op (va_var rfl) va_c (vr_mul (.inl ⟨by omega, by omega⟩))) (va_op (va_var rfl) va_c (vr_fdv (by decide))) vr_add) (va_op va_c (va_var rfl) (vr_mul (.inl ⟨by omega, by omega⟩))) vr_add) vs_nil) vc_int) va_c (vr_mod (by decide))) ?_
      generalize htwo : (two * 40692 + one' / 7 + 3 * (k : Int)) % 2147483399 = two'
      have t0' : 0 ≤ two' := by rw [← htwo]; exact Int.emod_nonneg _ (by decide)
      have t1' : two' < 2147483399 := by rw [← htwo]; exact Int.emod_lt_of_pos _ (by decide)
      refine st_app (v := .int ((one' / 37 + two' / 23) % 991)) (va_var rfl) (va_op (va_cb (vs_cons (va_op (va_op (va_var rfl) va_c (vr_fdv (by decide))) (va_op (va_var rfl) va_c (vr_fdv (by decide))) vr_add) vs_nil) vc_int) va_c (vr_mod (by decide))) hM' (by rw [List.length_map]; omega) ?_
      exact ⟨one', two', some (.int (k : Int)), ns ++ [(one' / 37 + two' / 23) % 991], rfl, o0', o1', t0', t1', by rw [List.length_append, List.length_singleton]; omega, S.put (List.mem_singleton.mpr rfl) hM', by rw [upd_same, List.map_append]; rfl⟩
    · subst es
      have hL4 := S.at hML hL3
      unfold tRet tOp
      refine va_var (v := .ref M) rfl _ (va_var (v := .ref L) rfl _ ⟨M, L, ns.map V.int, ms.map V.int, rfl, rfl, hM', hL4, small_line (by rw [List.length_map, List.length_map]; omega), fun r hr => ?_⟩)
      have Sa : Same H H' := (SX.after S1 SL fun b hb => by rw [List.mem_singleton.mp hb]; exact nL).trans (SX.after S3 S fun b hb => by rw [List.mem_singleton.mp hb]; exact nM)
      exact q _ _ (Sa.trans (same_new hr)) ⟨r, rfl, Sa.none hr, ns ++ ms, by rw [upd_same, List.map_append]⟩
end
end K45
set_option Elab.async false
set_option linter.all false
set_option maxRecDepth 100000
set_option maxHeartbeats 200000
namespace K45
open PySem PySem.Spec PyProof.Rows L2
abbrev s__law_table : Stmt := topS 60
theorem sc__law_table : FnScope ["_law_d", "_law_b", "_law_unit", "_law_share", "_law_rows", "_law_x", "_law_row", "_law_y", "_law_entry"] ["_law_d", "_law_b", "_law_unit"] (defScope s__law_table) := ⟨rfl, rfl, rfl, by decide +kernel, rfl, by decide +kernel, by decide +kernel⟩
def t__law_table (K : PySem.W.Frag) (sp__law_take : Sp) : TS := (tSeq (tAsg (tCall sp__law_take [] E0 (tCons (tVar 0) (tCons (tC (.int 4)) tNil))) (gName 3))
    (tSeq (tAsg (tLst tNil) (gName 4))
    (tSeq (tFor (iRng1 (tCons (tVar 1) tNil)) (gName 5) (tSeq (tAsg (tLst tNil) (gName 6))
    (tSeq (tFor (iRng1 (tCons (tVar 1) tNil)) (gName 7) (tSeq (tAsg (tOp rMul (tOp rSub (tCall sp__law_take [] E0 (tCons (tVar 0) (tCons (tC (.int 16)) tNil))) (tC (.int 6))) (tVar 2)) (gName 8))
    (tSeq (tIfS (tTest (tOp rEq (tVar 5) (tVar 7))) (tAsg (tC (.int 0)) (gName 8)) (tIfS (tAnd (tTest (tOp rLt (tCall sp__law_take [] E0 (tCons (tVar 0) (tCons (tC (.int 3)) tNil))) (tVar 3))) (tTest (tOp rLt (tVar 3) (tC (.int 3))))) (tAsg (tC .non) (gName 8)) tNext))
    (tDrop (tBM K "list" rAppend (tVar 6) (tCons (tVar 8) tNil))))))
    (tDrop (tBM K "list" rAppend (tVar 4) (tCons (tCB (cTup K) (tCons (tVar 6) tNil)) tNil))))))
    (tRet (tCB (cTup K) (tCons (tVar 4) tNil))))))
theorem d__law_table {P : Program} {w : World} {K : PySem.W.Frag} {mg : Str → Option Value} {base : Heap} (B : Bif mg) {sp__law_take : Sp} (c__law_take : Cal P w K mg base 1 "_law_take" ["_law_d", "_law_b"] sp__law_take) {f : Addr} {cdv : Value} {A : Around} {outer : List Env} {s : Shared} {H : Hp} {E : XK} (hr : Room 1 (A.deeper (envOfC "_law_table" (defScope s__law_table) s.heap.objs.size f cdv))) :
    PSs (cxOf CX0 P w K mg base ["_law_d", "_law_b", "_law_unit", "_law_share", "_law_rows", "_law_x", "_law_row", "_law_y", "_law_entry"] "_law_table" (defScope s__law_table) f cdv A outer s H E).nox (defBody s__law_table) (t__law_table K sp__law_take) := by
  have nd := sc__law_table.nd
  exact (pss_cons (ps_set (i := 3) nd rfl (Or.inl rfl) (pe_cal c__law_take hr (by decide) (by rfl) (pa_cons (pv 0) (pa_cons pe_int pa_nil))))
      (pss_cons (ps_set (i := 4) nd rfl (Or.inl rfl) (pe_lst pa_nil))
      (pss_cons (ps_for PassesOwn.never rfl (pi_range1 (by rfl) B.range_ (pa_cons (pv 1) pa_nil)) (pg_name (i := 5) nd rfl (Or.inl rfl)) (pss_cons (ps_set (i := 6) nd rfl (Or.inl rfl) (pe_lst pa_nil))
      (pss_cons (ps_for PassesOwn.never rfl (pi_range1 (by rfl) B.range_ (pa_cons (pv 1) pa_nil)) (pg_name (i := 7) nd rfl (Or.inl rfl)) (pss_cons (ps_set (i := 8) nd rfl (Or.inl rfl) (pe_op k_mul (pe_op k_sub (pe_cal c__law_take hr (by decide) (by rfl) (pa_cons (pv 0) (pa_cons pe_int pa_nil))) pe_int) (pv 2)))
      (pss_cons (ps_if (pt_cmpR op_eq (pv 5) (pv 7) (nomark _)) (pss_one (ps_set (i := 8) nd rfl (Or.inl rfl) pe_int)) (pss_one (ps_if (PW.pt (pw_and (pt_cmpR k_lt (pe_cal c__law_take hr (by decide) (by rfl) (pa_cons (pv 0) (pa_cons pe_int pa_nil))) (pv 3) (nomark _)) (pw_and1 (pt_cmpR k_lt (pv 3) pe_int (nomark _))))) (pss_one (ps_set (i := 8) nd rfl (Or.inl rfl) pe_non)) pss_nil)))
      (pss_one (ps_expr (pe_bm PySem.F.plainAttrs_list PySem.F.slot_list_append PySem.F.type_list_append mt_append (pv 6) (pa_cons (pv 8) pa_nil)))))))
      (pss_one (ps_expr (pe_bm PySem.F.plainAttrs_list PySem.F.slot_list_append PySem.F.type_list_append mt_append (pv 4) (pa_cons (pe_callTy k_tuple (by rfl) B.tuple_ (by decide +kernel) (pa_cons (pv 6) pa_nil)) pa_nil)))))))
      (pss_one (ps_ret (pe_callTy k_tuple (by rfl) B.tuple_ (by decide +kernel) (pa_cons (pv 4) pa_nil)))))))

section
variable {P : Program} {w : World} {K : PySem.W.Frag} {mg : Str → Option Value} {base : Heap}
/-- values and tests that change the heap -/
def Am (te : TE) (σ : L2.St) (H : Hp) (P : V → Hp → Prop) : Prop := ∀ Q : VK, (∀ v H', P v H' → Q v H') → te σ H Q
def Qm (t : TT) (σ : L2.St) (H : Hp) (P : Bool → Hp → Prop) : Prop := ∀ Q : Bool → Hp → Prop, (∀ b H', P b H' → Q b H') → t σ H Q
theorem am_op {ta tb : TE} {r : V → V → Hp → VK → Prop} {σ : L2.St} {H : Hp} {P1 P2 : V → Hp → Prop} (h : Am ta σ H P1) (k : ∀ v H1, P1 v H1 → ∃ x z, Va tb σ H1 x ∧ Vr r v x H1 z ∧ P2 z H1) : Am (tOp r ta tb) σ H P2 := fun Q q => h _ fun v H1 p => by
  obtain ⟨x, z, h1, h2, h3⟩ := k v H1 p
  exact h1 _ (h2 _ (q z H1 h3))
theorem am_opR {ta tb : TE} {r : V → V → Hp → VK → Prop} {σ : L2.St} {H : Hp} {u : V} {P1 P2 : V → Hp → Prop} (ha : Va ta σ H u) (h : Am tb σ H P1) (k : ∀ v H1, P1 v H1 → ∃ z, Vr r u v H1 z ∧ P2 z H1) : Am (tOp r ta tb) σ H P2 := fun Q q => ha _ (h _ fun v H1 p => by
  obtain ⟨z, h2, h3⟩ := k v H1 p
  exact h2 _ (q z H1 h3))
theorem am_imp {ta : TE} {σ : L2.St} {H : Hp} {P1 P2 : V → Hp → Prop} (h : Am ta σ H P1) (k : ∀ v H1, P1 v H1 → P2 v H1) : Am ta σ H P2 := fun Q q => h _ fun v H1 p => q v H1 (k v H1 p)
theorem q_asgM {te : TE} {σ : L2.St} {H : Hp} {P1 : V → Hp → Prop} {i : Nat} {tz : TS} {D : Ends} (h : Am te σ H P1) (k : ∀ v H1, P1 v H1 → tz D (σ.set i (some v)) H1) : tSeq (tAsg te (gName i)) tz D σ H := h _ k
theorem qm_test {te : TE} {σ : L2.St} {H : Hp} {P1 : V → Hp → Prop} {p : Bool → Hp → Prop} (h : Am te σ H P1) (k : ∀ v H1, P1 v H1 → ∃ b, v = .bl b ∧ p b H1) : Qm (tTest te) σ H p := fun Q q => h _ fun v H1 r => by
  obtain ⟨b, e, r2⟩ := k v H1 r
  exact ⟨b, e, q b H1 r2⟩
theorem qm_and {t u : TT} {σ : L2.St} {H : Hp} {p p2 : Bool → Hp → Prop} (h : Qm t σ H p) (k : ∀ H1, p true H1 → Qm u σ H1 p2) (k0 : ∀ H1, p false H1 → p2 false H1) : Qm (tAnd t u) σ H p2 := fun Q q => h _ fun b H1 r => by
  cases b with
  | true => exact iteT (k H1 r Q q)
  | false => exact iteF (q false H1 (k0 H1 r))
theorem qm_vt {t : TT} {σ : L2.St} {H : Hp} {b : Bool} {p : Bool → Hp → Prop} (h : Vt t σ H b) (k : p b H) : Qm t σ H p := fun Q q => h _ (q b H k)
theorem st_ifM {t : TT} {σ : L2.St} {H : Hp} {p : Bool → Hp → Prop} {D : Ends} {tu tw : TS} (h : Qm t σ H p) (h1 : ∀ H1, p true H1 → tu D σ H1) (h2 : ∀ H1, p false H1 → tw D σ H1) : tIfS t tu tw D σ H := h _ fun b H1 r => by
  cases b with
  | true => exact iteT (h1 H1 r)
  | false => exact iteF (h2 H1 r)
def Took (H : Hp) (d : Addr) (b : Int) : V → Hp → Prop := fun v H' => ∃ k : Int, v = .int k ∧ 0 ≤ k ∧ k < b ∧ SX [d] H H' ∧ DL H' d
theorem am_take {σ : L2.St} {H : Hp} {d : Addr} {b : Int} {ta tb : TE} (hd : DL H d) (ha : Va ta σ H (.ref d)) (hb : Va tb σ H (.int b)) (h0 : 0 < b) : Am (tCall spTake [] E0 (tCons ta (tCons tb tNil))) σ H (Took H d b) := fun Q q =>
  vs_cons ha (vs_cons hb vs_nil) _ (by rw [List.append_nil]; exact ⟨d, b, rfl, h0, hd, fun k H' h1 h2 h3 h4 => q _ _ ⟨k, rfl, h1, h2, h3, h4⟩⟩)
theorem DL.put {H : Hp} {d b : Addr} {o : HO} (h : DL H d) (ne : b ≠ d) : DL (upd H b o) d := h.imp fun _ e => by rw [upd_ne (Ne.symm ne)]; exact e
theorem DL.ne {H : Hp} {d b : Addr} (h : DL H d) (hb : H b = none) : b ≠ d := fun z => by obtain ⟨ns, e⟩ := h; rw [← z, hb] at e; cases e
/-- an entry within the bounds -/
def EB (u : Int) (o : Option Int) : Prop := ∀ e, o = some e → -(9 * u) ≤ e ∧ e ≤ 9 * u
def spTable (K : PySem.W.Frag) : Sp := fun vs H Q _ => ∃ (n : Nat) (d : Addr) (u : Int), vs = [.ref d, .int (n : Int), .int u] ∧ 0 ≤ u ∧ n ≤ 60 ∧ DL H d ∧
  ∀ (a : Addr) (G : Gr) H', SX [d] H H' → DL H' d → TR K H' a n n (oI G) → (∀ i, i < n → G i i = some 0) → (∀ i j, i < n → j < n → EB u (G i j)) → Q (.ref a) H'
theorem cal__law_table (T : Txt K mg) : Cal P w K mg base 2 "_law_table" ["_law_d", "_law_b", "_law_unit"] (spTable K) := by
  refine T._law_table.cal sc__law_table (fun vs H Q E h => ?_) (fun fa cdv A outer s H vs Q E hr h => ⟨_, d__law_table T.B (cal__law_take T) hr, ?_⟩)
  · obtain ⟨n, d, u, rfl, _⟩ := h; rfl
  obtain ⟨n, d, u, rfl, hu, hn, hd, q⟩ := h
  unfold t__law_table
  refine q_asgM (am_take hd (va_var rfl) va_c (by decide)) fun v H1 ⟨sh, ev, _, _, SX1, hd1⟩ => ?_
  subst ev
  refine q_asgA (al_lst (vs := []) vs_nil) fun v H2 S2 ⟨R, ev, nR, hR⟩ => ?_
  subst ev
  have hRd : R ∉ [d] := fun z => hd1.ne nR (List.mem_singleton.mp z)
  refine q_forR (n := n) (vs_cons (va_var rfl) vs_nil) (by omega) (fun x σ' H' => ∃ v5 v6 v7 v8, ∃ ad : Nat → Addr, ∃ G : Gr, σ' = [some (.ref d), some (.int (n : Int)), some (.int u), some (.int sh), some (.ref R), v5, v6, v7, v8] ∧ SX [d] H1 H' ∧ DL H' d ∧ H' R = some (.lst (tab x fun i => .ref (ad i))) ∧ (∀ i, i < x → SqT K H' (ad i) (tab n (oI G i))) ∧ ∀ i j, i < x → j < n → EB u (G i j) ∧ (j = i → G i j = some 0))
    ⟨none, none, none, none, fun _ => 0, fun _ _ => none, rfl, .of S2, hd1.same S2, hR, fun i hi => absurd hi (Nat.not_lt_zero i), fun i j hi => absurd hi (Nat.not_lt_zero i)⟩ (fun x σ' H' hx ⟨v5, v6, v7, v8, ad, G, es, S, hd', e1, e2, e3⟩ => ?_) (fun σ' H' ⟨v5, v6, v7, v8, ad, G, es, S, hd', e1, e2, e3⟩ => ?_)
  · subst es
    refine q_asgA (al_lst (vs := []) vs_nil) fun v H3 S3 ⟨r, ev, nr, hr⟩ => ?_
    subst ev
    have rd : r ≠ d := hd'.ne nr
    refine q_forR (n := n) (vs_cons (va_var rfl) vs_nil) (by omega) (fun y σ' H4 => ∃ v7 v8, ∃ row : Nat → Option Int, σ' = [some (.ref d), some (.int (n : Int)), some (.int u), some (.int sh), some (.ref R), some (.int (x : Int)), some (.ref r), v7, v8] ∧ SX [d] H' H4 ∧ DL H4 d ∧ H4 r = some (.lst (tab y fun j => oV (row j))) ∧ ∀ j, j < y → EB u (row j) ∧ (j = x → row j = some 0))
      ⟨v7, v8, fun _ => none, rfl, .of S3, hd'.same S3, hr, fun j hj => absurd hj (Nat.not_lt_zero j)⟩ (fun y σ' H4 hy ⟨v7, v8, row, es, S4, hd4, f1, f2⟩ => ?_) (fun σ' H4 ⟨v7, v8, row, es, S4, hd4, f1, f2⟩ => ?_)
    · subst es
      have fin : ∀ (o : Option Int) (H5 : Hp), EB u o → (y = x → o = some 0) → SX [d] H' H5 → DL H5 d → H5 r = some (.lst (tab y fun j => oV (row j))) →
          ∃ v7 v8, ∃ row2 : Nat → Option Int, ([some (.ref d), some (.int (n : Int)), some (.int u), some (.int sh), some (.ref R), some (.int (x : Int)), some (.ref r), some (.int (y : Int)), some (oV o)] : L2.St) = [some (.ref d), some (.int (n : Int)), some (.int u), some (.int sh), some (.ref R), some (.int (x : Int)), some (.ref r), v7, v8] ∧ SX [d] H' (upd H5 r (.lst ((tab y fun j => oV (row j)) ++ [oV o]))) ∧ DL (upd H5 r (.lst ((tab y fun j => oV (row j)) ++ [oV o]))) d ∧ upd H5 r (.lst ((tab y fun j => oV (row j)) ++ [oV o])) r = some (.lst (tab (y + 1) fun j => oV (row2 j))) ∧ ∀ j, j < y + 1 → EB u (row2 j) ∧ (j = x → row2 j = some 0) := fun o H5 h1 h2 h3 h4 h5 => by
        refine ⟨some (.int (y : Int)), some (oV o), up row y o, rfl, h3.new nr, h4.put rd, ?_, fun j hj => ?_⟩
        · rw [upd_same]
          refine congrArg (fun l => some (HO.lst l)) ?_
          rw [tab_succ, up_same]
          exact congrArg (fun l => l ++ [oV o]) (tab_congr fun i hi => by rw [up_ne (Nat.ne_of_lt hi)])
        · by_cases c : j = y
          · subst c; rw [up_same]; exact ⟨h1, h2⟩
          · rw [up_ne c]; exact f2 j (by omega)
      refine q_asgM (am_op (P2 := fun v H5 => ∃ e : Int, v = .int e ∧ EB u (some e) ∧ SX [d] H4 H5 ∧ DL H5 d) (am_op (P2 := fun v H5 => ∃ k : Int, v = .int k ∧ -6 ≤ k ∧ k ≤ 9 ∧ SX [d] H4 H5 ∧ DL H5 d) (am_take hd4 (va_var rfl) va_c (by decide)) fun v H5 ⟨k, ev, k0, k1, S5, hd5⟩ => ⟨.int 6, .int (k - 6), va_c, by rw [ev]; exact vr_sub, (show ∃ k' : Int, V.int (k - 6) = .int k' ∧ -6 ≤ k' ∧ k' ≤ 9 ∧ SX [d] H4 H5 ∧ DL H5 d from ⟨k - 6, rfl, by omega, by omega, S5, hd5⟩)⟩) fun v H5 ⟨k, ev, k0, k1, S5, hd5⟩ => ⟨.int u, .int (k * u), va_var rfl, by rw [ev]; exact vr_mul (.inl ⟨by omega, by omega⟩), (show ∃ e : Int, V.int (k * u) = .int e ∧ EB u (some e) ∧ SX [d] H4 H5 ∧ DL H5 d from ⟨k * u, rfl, fun e he => by
          cases he
          have h1 := Int.mul_le_mul_of_nonneg_right k1 hu
          have h2 := Int.mul_le_mul_of_nonneg_right k0 hu
          exact ⟨by omega, by omega⟩, S5, hd5⟩)⟩) fun v H5 ⟨e, ev, he, S5, hd5⟩ => ?_
      subst ev
      have f5 := S5.at (fun z => rd (List.mem_singleton.mp z)) f1
      refine q_if (b := decide ((x : Int) = y)) (vt_test (va_op (va_var rfl) (va_var rfl) vr_eqI)) (fun c => ?_) (fun c => ?_)
      · refine st_asg (v := oV (some 0)) va_c ?_
        exact st_app (v := oV (some 0)) (va_var rfl) (va_var rfl) f5 (by rw [tab_len]; omega) (fin (some 0) H5 (fun e he => by cases he; exact ⟨by omega, by omega⟩) (fun _ => rfl) (S4.trans S5) hd5 f5)
      · have ne : y ≠ x := fun z => by subst z; exact absurd (of_decide_eq_false c) (fun h => h rfl)
        refine st_ifM (p := fun b H6 => SX [d] H4 H6 ∧ DL H6 d) (qm_and (p := fun b H6 => SX [d] H4 H6 ∧ DL H6 d) (qm_test (am_op (P2 := fun v H6 => ∃ b, v = .bl b ∧ SX [d] H4 H6 ∧ DL H6 d) (am_take hd5 (va_var rfl) va_c (by decide)) fun v H6 ⟨k, ev, _, _, S6, hd6⟩ => ⟨.int sh, .bl (decide (k < sh)), va_var rfl, by rw [ev]; exact vr_lt, _, rfl, S5.trans S6, hd6⟩) fun v H6 ⟨b, e, h⟩ => ⟨b, e, h⟩) (fun H6 h => qm_vt (vt_test (va_op (va_var rfl) va_c vr_lt)) h) (fun H6 h => h)) (fun H6 ⟨S6, hd6⟩ => ?_) (fun H6 ⟨S6, hd6⟩ => ?_)
        · refine st_asg va_c ?_
          have f6 := S6.at (fun z => rd (List.mem_singleton.mp z)) f1
          exact st_app (v := oV none) (va_var rfl) (va_var rfl) f6 (by rw [tab_len]; omega) (fin none H6 (fun e he => by cases he) (fun z => absurd z ne) (S4.trans S6) hd6 f6)
        · have f6 := S6.at (fun z => rd (List.mem_singleton.mp z)) f1
          exact st_app (v := oV (some e)) (va_var rfl) (va_var rfl) f6 (by rw [tab_len]; omega) (fin (some e) H6 he (fun z => absurd z ne) (S4.trans S6) hd6 f6)
    · subst es
      have e1' := S4.at hRd e1
      refine st_appA (va_var rfl) (al_tupL (K := K) (va_var (v := .ref r) rfl) (SqL.of f1)) (show _ from e1') (by rw [tab_len]; omega) fun v H5 S5 ⟨p, ev, np, hp⟩ => ?_
      subst ev
      have e5 := S5 _ _ e1'
      have npR : p ≠ R := fun z => by rw [z, e1'] at np; cases np
      have SR : SX [R] H5 (upd H5 R (.lst ((tab x fun i => V.ref (ad i)) ++ [.ref p]))) := (SX.of (Same.refl H5)).put (List.mem_singleton.mpr rfl) e5
      refine ⟨some (.int (x : Int)), some (.ref r), v7, v8, up ad x p, up G x row, rfl, ((S.trans S4).same S5).new nR, (hd4.same S5).put (hd1.ne nR), ?_, fun i hi => ?_, fun i j hi hj => ?_⟩
      · rw [upd_same, tab_succ, up_same]
        exact congrArg (fun l => some (HO.lst (l ++ [V.ref p]))) (tab_congr fun i hi => by rw [up_ne (Nat.ne_of_lt hi)])
      · by_cases c : i = x
        · subst c
          have e : tab n (oI (up G i row) i) = tab n fun j => oV (row j) := tab_congr fun j hj => by show oV (up G i row i j) = _; rw [up_same]
          rw [up_same, e]
          exact SqT.of (by rw [upd_ne npR]; exact hp)
        · have e : tab n (oI (up G x row) i) = tab n (oI G i) := tab_congr fun j hj => by show oV (up G x row i j) = _; rw [up_ne c]
          rw [up_ne c, e]
          exact SR.t (S5.t (S4.t (e2 i (by omega))))
      · by_cases c : i = x
        · subst c; rw [up_same]; exact f2 j hj
        · rw [up_ne c]; exact e3 i j (by omega) hj
  · subst es
    refine st_retA (al_tupR (F := oI G) (va_var rfl) e1 e2) fun v H5 S5 ⟨p, ev, hp⟩ => ?_
    subst ev
    exact q p G H5 (SX1.trans (S.same S5)) (hd'.same S5) hp (fun i hi => (e3 i i hi hi).2 rfl) fun i j hi hj => (e3 i j hi hj).1
end
end K45
set_option Elab.async false
set_option linter.all false
set_option maxRecDepth 100000
set_option maxHeartbeats 200000
namespace K45
open PySem PySem.Spec PyProof.Rows L2
abbrev s__law_waits : Stmt := topS 65
theorem sc__law_waits : FnScope ["_law_d", "_law_g", "_law_b", "_law_t", "_law_at", "_law_k", "_law_x", "_law_row", "_law_one"] ["_law_d", "_law_g"] (defScope s__law_waits) := ⟨rfl, rfl, rfl, by decide +kernel, rfl, by decide +kernel, by decide +kernel⟩
def t__law_waits (K : PySem.W.Frag) (sp__law_take sp__law_lower : Sp) : TS := (tSeq (tAsg (tCB (cLen K) (tCons (tVar 1) tNil)) (gName 2))
    (tSeq (tAsg (tLc (iTup K (tVar 1)) (gName 7) tYes (tCB (cMax K) (tCons (tOp rCat (tLst (tCons (tC (.int 0)) tNil)) (tLc (iTup K (tVar 7)) (gName 8) (tTest (tOp kNotN (tVar 8) (tC .non))) (tVar 8) [8])) tNil)) [7]) (gName 3))
    (tSeq (tAsg (tCall sp__law_take [] E0 (tCons (tVar 0) (tCons (tVar 2) tNil))) (gName 4))
    (tSeq (tFor (iRng1 (tCons (tCall sp__law_take [] E0 (tCons (tVar 0) (tCons (tC (.int 6)) tNil))) tNil)) (gName 5) (tAsg (tCB (cList K) (tCons (tCall sp__law_lower [] E0 (tCons (tVar 1) (tCons (tVar 3) (tCons (tOp rMod (tOp rAdd (tVar 4) (tOp rMul (tC (.int 3)) (tVar 5))) (tVar 2)) tNil)))) tNil)) (gName 3)))
    (tSeq (tFor (iRng1 (tCons (tVar 2) tNil)) (gName 6) (tAsg (tOp rAdd (tOp (rIx K) (tVar 3) (tVar 6)) (tCB cMax2 (tCons (tC (.int 0)) (tCons (tOp rSub (tCall sp__law_take [] E0 (tCons (tVar 0) (tCons (tC (.int 12)) tNil))) (tC (.int 7))) tNil)))) (gSub (tVar 3) (tVar 6) rSetL)))
    (tRet (tCB (cTup K) (tCons (tVar 3) tNil))))))))
theorem d__law_waits {P : Program} {w : World} {K : PySem.W.Frag} {mg : Str → Option Value} {base : Heap} (B : Bif mg) {sp__law_take sp__law_lower : Sp} (c__law_take : Cal P w K mg base 1 "_law_take" ["_law_d", "_law_b"] sp__law_take) (c__law_lower : Cal P w K mg base 2 "_law_lower" ["_law_g", "_law_t", "_law_x"] sp__law_lower) {f : Addr} {cdv : Value} {A : Around} {outer : List Env} {s : Shared} {H : Hp} {E : XK} (hr : Room 2 (A.deeper (envOfC "_law_waits" (defScope s__law_waits) s.heap.objs.size f cdv))) :
    PSs (cxOf CX0 P w K mg base ["_law_d", "_law_g", "_law_b", "_law_t", "_law_at", "_law_k", "_law_x", "_law_row", "_law_one"] "_law_waits" (defScope s__law_waits) f cdv A outer s H E).nox (defBody s__law_waits) (t__law_waits K sp__law_take sp__law_lower) := by
  have nd := sc__law_waits.nd
  exact (pss_cons (ps_set (i := 2) nd rfl (Or.inl rfl) (pe_callB k_len (by rfl) B.len_ (by decide +kernel) (pa_cons (pv 1) pa_nil)))
      (pss_cons (ps_setLc (i := 3) (own := [("_law_row", 7)]) rfl nd rfl rfl (sw_true rfl rfl rfl (by decide +kernel)) (pi_tup (pv 1)) (blkOk_by (own := [("_law_row", 7)]) (by kernel_rfl)) (fun _ _ _ _ _ => (pg_name (i := 7) nd rfl (Or.inl rfl))) (fun _ _ _ _ _ => pts_nil) (fun _ _ _ _ _ => (pe_callB (k_max rfl) (by rfl) B.max_ (by decide +kernel) (pa_cons (pe_op op_cat (pe_lst (pa_cons pe_int pa_nil)) (pe_lc (own := [("_law_one", 8)]) rfl nd (pi_tup (pv 7)) (blkOk_by (own := [("_law_one", 8)]) (by kernel_rfl)) (fun _ _ _ _ _ => (pg_name (i := 8) nd rfl (Or.inl rfl))) (fun _ _ _ _ _ => (pts_one (pt_cmpR k_notN (pv 8) pe_non (nomark _)))) (fun _ _ _ _ _ => (pv 8)))) pa_nil))))
      (pss_cons (ps_set (i := 4) nd rfl (Or.inl rfl) (pe_cal c__law_take hr (by decide) (by rfl) (pa_cons (pv 0) (pa_cons (pv 2) pa_nil))))
      (pss_cons (ps_for PassesOwn.never rfl (pi_range1 (by rfl) B.range_ (pa_cons (pe_cal c__law_take hr (by decide) (by rfl) (pa_cons (pv 0) (pa_cons pe_int pa_nil))) pa_nil)) (pg_name (i := 5) nd rfl (Or.inl rfl)) (pss_one (ps_set (i := 3) nd rfl (Or.inl rfl) (pe_callTy k_list (by rfl) B.list_ (by decide +kernel) (pa_cons (pe_cal c__law_lower hr (by decide) (by rfl) (pa_cons (pv 1) (pa_cons (pv 3) (pa_cons (pe_op k_mod (pe_op k_add (pv 4) (pe_op k_mul pe_int (pv 5))) (pv 2)) pa_nil)))) pa_nil)))))
      (pss_cons (ps_for PassesOwn.never rfl (pi_range1 (by rfl) B.range_ (pa_cons (pv 2) pa_nil)) (pg_name (i := 6) nd rfl (Or.inl rfl)) (pss_one (ps_asg (pe_op k_add (pe_ix ix_seq (pv 3) (pv 6) (fun _ _ => rfl)) (pe_callB (k_max2 rfl) (by rfl) B.max_ (by decide +kernel) (pa_cons pe_int (pa_cons (pe_op k_sub (pe_cal c__law_take hr (by decide) (by rfl) (pa_cons (pv 0) (pa_cons pe_int pa_nil))) pe_int) pa_nil)))) (pg_sub (pv 3) (pv 6) set_list))))
      (pss_one (ps_ret (pe_callTy k_tuple (by rfl) B.tuple_ (by decide +kernel) (pa_cons (pv 3) pa_nil)))))))))

section
variable {P : Program} {w : World} {K : PySem.W.Frag} {mg : Str → Option Value} {base : Heap}
def mx : List Int → Int
  | [] => 0
  | a :: l => if mx l < a then a else mx l
theorem mx_mem : ∀ l : List Int, mx l ∈ (0 : Int) :: l
  | [] => List.mem_cons_self ..
  | a :: l => by
    unfold mx
    split
    · exact List.mem_cons_of_mem _ (List.mem_cons_self ..)
    · rcases List.mem_cons.mp (mx_mem l) with h | h
      · rw [h]; exact List.mem_cons_self ..
      · exact List.mem_cons_of_mem _ (List.mem_cons_of_mem _ h)
theorem mx_le : ∀ (l : List Int) v, v ∈ (0 : Int) :: l → v ≤ mx l
  | [], v, h => by rw [List.mem_singleton.mp h]; exact Int.le_refl _
  | a :: l, v, h => by
    have h0 := mx_le l 0 (List.mem_cons_self ..)
    unfold mx
    rcases List.mem_cons.mp h with h | h
    · split <;> omega
    · rcases List.mem_cons.mp h with h | h
      · split <;> omega
      · have := mx_le l v (List.mem_cons_of_mem _ h)
        split <;> omega
theorem given_ints (o : Nat → Option Int) (n : Nat) : given n (fun j => (o j).isSome) (fun j => oV (o j)) = ((List.range n).filterMap o).map V.int := by
  unfold given
  generalize List.range n = l
  induction l with
  | nil => rfl
  | cons a l ih =>
    cases e : o a with
    | none => rw [List.filter_cons_of_neg (by rw [e]; decide), List.filterMap_cons_none e]; exact ih
    | some x => rw [List.filter_cons_of_pos (by rw [e]; rfl), List.filterMap_cons_some e, List.map_cons, List.map_cons, ih, e]; rfl
theorem kept_more {n : Nat} {g : Gr} {t t' : Nat → Int} (h : Kept n g t) (k : ∀ i, i < n → t i ≤ t' i) : Kept n g t' := by
  obtain ⟨p, f⟩ := h
  refine ⟨p, fun x y hx hy e he => ?_⟩
  by_cases c : x = y
  · subst c; rw [gn_self] at he; cases he
  · rw [gn_ne c] at he
    cases cg : g x y with
    | none => rw [cg] at he; cases he
    | some e' =>
      rw [cg] at he
      cases he
      have h1 := f x y hx hy (e' - t x) (by rw [gn_ne c, cg]; rfl)
      have h2 := k x hx
      show p x + (e' - t' x) ≤ p y
      omega
theorem kept_first {n : Nat} {g : Gr} : Kept n g fun x => mx ((List.range n).filterMap (g x)) := ⟨fun _ => 0, fun x y hx hy e he => by
  by_cases c : x = y
  · subst c; rw [gn_self] at he; cases he
  · rw [gn_ne c] at he
    cases cg : g x y with
    | none => rw [cg] at he; cases he
    | some e' =>
      rw [cg] at he
      cases he
      have := mx_le ((List.range n).filterMap (g x)) e' (List.mem_cons_of_mem _ (List.mem_filterMap.mpr ⟨y, List.mem_range.mpr hy, cg⟩))
      show 0 + (e' - mx ((List.range n).filterMap (g x))) ≤ 0
      omega⟩
theorem q_forRM {te : TE} {σ : L2.St} {H : Hp} {P1 : V → Hp → Prop} {j : Nat} {tu tz : TS} {D : Ends} (h : Am te σ H P1) (k : ∀ v H1, P1 v H1 → tSeq (tFor (iRng1 (tCons (tC v) tNil)) (gName j) tu) tz D σ H1) : tSeq (tFor (iRng1 (tCons te tNil)) (gName j) tu) tz D σ H := h _ k
theorem st_asgG {te : TE} {σ : L2.St} {H : Hp} {P1 : V → Hp → Prop} {g : TG} {D : Ends} (h : Am te σ H P1) (k : ∀ v H1, P1 v H1 → tAsg (tC v) g D σ H1) : tAsg te g D σ H := h _ k
theorem am_cb2 {te : TE} {σ : L2.St} {H : Hp} {u : V} {P1 P2 : V → Hp → Prop} {c : List V → Hp → VK → Prop} (h : Am te σ H P1) (k : ∀ v H1, P1 v H1 → ∃ z, Vc c [u, v] H1 z ∧ P2 z H1) : Am (tCB c (tCons (tC u) (tCons te tNil))) σ H P2 := fun Q q => h _ fun v H1 p => by
  obtain ⟨z, h1, h2⟩ := k v H1 p
  exact h1 _ (q z H1 h2)
theorem al_listN {σ : L2.St} {H : Hp} {te : TE} {xs : List V} (h : Al te σ H (IsNewT H xs)) : Al (tCB (cList K) (tCons te tNil)) σ H (IsNewL H xs) := fun Q q =>
  h _ fun v H1 S ⟨p, ev, np, hp⟩ => by
    subst ev
    exact al_listT (K := K) (te := tC (.ref p)) (σ := σ) va_c (SqT.of hp) _ fun v H2 S2 ⟨r, er, nr, hr⟩ => q v H2 (S.trans S2) ⟨r, er, S.none nr, hr⟩
def spWaits (K : PySem.W.Frag) : Sp := fun vs H Q _ => ∃ (n : Nat) (d a : Addr) (g : Gr), vs = [.ref d, .ref a] ∧ 1 ≤ n ∧ n ≤ 60 ∧ DL H d ∧ TR K H a n n (oI g) ∧
  ∀ (b : Addr) (t : Nat → Int) H', SX [d] H H' → DL H' d → SqT K H' b (tabI n t) → Kept n g t → NN n t → Q (.ref b) H'
theorem cal__law_waits (T : Txt K mg) : Cal P w K mg base 3 "_law_waits" ["_law_d", "_law_g"] (spWaits K) := by
  refine T._law_waits.cal sc__law_waits (fun vs H Q E h => ?_) (fun fa cdv A outer s H vs Q E hr h => ⟨_, d__law_waits T.B (cal__law_take T) (cal__law_lower T) hr, ?_⟩)
  · obtain ⟨n, d, a, g, rfl, _⟩ := h; rfl
  obtain ⟨n, d, a, g, rfl, h1, hn, hd, hT, q⟩ := h
  unfold t__law_waits
  refine q_asg (v := .int (n : Int)) (va_cb (vs_cons (va_var rfl) vs_nil) (vc_lenTT hT)) ?_
  obtain ⟨ad, hA, hR⟩ := hT
  refine q_asgA (P := IsNewL H (tabI n fun x => mx ((List.range n).filterMap (g x)))) (al_lcV (fun x => .int (mx ((List.range n).filterMap (g x)))) (src_T (n := n) (f := fun i => .ref (ad i)) (va_var rfl) hA) (fun _ => rfl) (by omega) fun x H1 hx S1 => ?_) fun v H1 S1 ⟨tA, ev, ntA, htA⟩ => ?_
  · have hr := S1.t (hR x hx)
    intro Q2 q2
    refine al_cat (xs := [.int 0]) (ys := given n (fun j => (g x j).isSome) (fun j => oV (g x j))) (al_lst (vs := [.int 0]) (vs_cons va_c vs_nil)) (fun H2 S2 => al_lcF (fun j => (g x j).isSome) (fun j => oV (g x j)) (src_T (n := n) (f := oI g x) (va_var rfl) (S2.t hr)) (fun _ => rfl) (by omega) (fun j H3 hj S3 => at_vt ?_) fun j H3 hj S3 hb => al_va (va_var rfl)) ?_ _ fun v H2 S2 ⟨p, ev, np, hp⟩ => ?_
    · cases cg : g x j with
      | none => exact vt_test (va_op (va_is (va_var (v := oI g x j) rfl) (oV_none cg)) va_c vr_notNn)
      | some e => exact vt_test (va_op (va_is (va_var (v := oI g x j) rfl) (oV_some cg)) va_c vr_notNi)
    · have : (given n (fun j => (g x j).isSome) (fun j => oV (g x j))).length ≤ n := by unfold given; rw [List.length_map]; exact Nat.le_trans (List.length_filter_le _ _) (by rw [List.length_range]; exact Nat.le_refl _)
      show 1 + _ ≤ _
      omega
    · subst ev
      rw [given_ints] at hp
      exact ⟨p, 0 :: (List.range n).filterMap (g x), rfl, .inl (SqL.of hp), by simp, fun m hm hle => by
        have a1 := mx_le _ m hm
        have a2 := hle _ (mx_mem _)
        exact q2 _ H2 S2 (congrArg V.int (by omega))⟩
  subst ev
  refine q_asgM (am_take (hd.same S1) (va_var rfl) (va_var rfl) (by omega)) fun v H2 ⟨at0, ev, at1, at2, SX2, hd2⟩ => ?_
  subst ev
  have hd1 := hd.same S1
  have hT : TR K H a n n (oI g) := ⟨ad, hA, hR⟩
  refine q_forRM (am_take hd2 (va_var rfl) va_c (by decide)) fun v H3 ⟨m0, ev, m1, m2, SX3, hd3⟩ => ?_
  subst ev
  have ntd : tA ∉ [d] := fun z => hd.ne ntA (List.mem_singleton.mp z)
  refine q_forR (n := m0.toNat) (vs_cons (va_is va_c (congrArg V.int (Int.toNat_of_nonneg m1).symm)) vs_nil) (by omega) (fun k σ' H' => ∃ (v5 : Option V) (tA : Addr) (t : Nat → Int), σ' = [some (.ref d), some (.ref a), some (.int (n : Int)), some (.ref tA), some (.int at0), v5, none, none, none] ∧ SX [d] H H' ∧ DL H' d ∧ H tA = none ∧ H' tA = some (.lst (tabI n t)) ∧ Kept n g t ∧ NN n t)
    ⟨none, tA, _, rfl, ((SX.of S1).trans SX2).trans SX3, hd3, ntA, SX3.at ntd (SX2.at ntd htA), kept_first, fun i _ => mx_le _ 0 (List.mem_cons_self ..)⟩ (fun k σ' H' hk ⟨v5, tA, t, es, S, hd', nt, ht, hkp, hnn⟩ => ?_) (fun σ' H' ⟨v5, tA, t, es, S, hd', nt, ht, hkp, hnn⟩ => ?_)
  · subst es
    have hx0 : 0 ≤ (at0 + 3 * (k : Int)) % n := Int.emod_nonneg _ (by omega)
    have hx1 : (at0 + 3 * (k : Int)) % n < n := Int.emod_lt_of_pos _ (by omega)
    have ex : ((((at0 + 3 * (k : Int)) % n).toNat : Nat) : Int) = (at0 + 3 * (k : Int)) % n := Int.toNat_of_nonneg hx0
    have hxn : ((at0 + 3 * (k : Int)) % n).toNat < n := by omega
    refine st_asgA (al_listN (xs := tabI n (up t _ (needF n g t ((at0 + 3 * (k : Int)) % n).toNat))) (al_call (vs_cons (va_var rfl) (vs_cons (va_var rfl) (vs_cons (va_is (va_op (va_op (va_var rfl) (va_op va_c (va_var rfl) (vr_mul (.inl ⟨by decide, by decide⟩))) vr_add) (va_var rfl) (vr_mod (by omega))) (congrArg V.int ex.symm)) vs_nil))) fun Q2 E2 q2 => ⟨n, a, tA, g, t, _, rfl, ⟨S.tt hT, .inl (SqL.of ht), h1, hn, hkp⟩, hxn, q2⟩)) fun v H4 S4 ⟨p, ev, np, hp⟩ => ?_
    subst ev
    refine ⟨some (.int (k : Int)), p, _, rfl, S.same S4, hd'.same S4, ?_, hp, lower_kept h1 hkp hxn, fun i hi => ?_⟩
    · cases c : H p with
      | none => rfl
      | some u => rcases S p u c with ⟨z, l, _⟩ | z
                  · obtain ⟨ns, e⟩ := hd'; rw [← List.mem_singleton.mp z, np] at e; cases e
                  · rw [np] at z; cases z
    · by_cases c : i = ((at0 + 3 * (k : Int)) % n).toNat
      · rw [c, up_same]; exact need_nn
      · rw [up_ne c]; exact hnn i hi
  · subst es
    have ntd : tA ∉ [d] := fun z => hd.ne nt (List.mem_singleton.mp z)
    refine q_forR (n := n) (vs_cons (va_var rfl) vs_nil) (by omega) (fun x σ' H' => ∃ (v6 : Option V) (t : Nat → Int), σ' = [some (.ref d), some (.ref a), some (.int (n : Int)), some (.ref tA), some (.int at0), v5, v6, none, none] ∧ SX [d] H H' ∧ DL H' d ∧ H' tA = some (.lst (tabI n t)) ∧ Kept n g t ∧ NN n t)
      ⟨none, t, rfl, S, hd', ht, hkp, hnn⟩ (fun x σ' H' hx ⟨v6, t, es, S, hd', ht, hkp, hnn⟩ => ?_) (fun σ' H' ⟨v6, t, es, S, hd', ht, hkp, hnn⟩ => ?_)
    · subst es
      refine st_asgG (P1 := fun v H4 => ∃ e : Int, 0 ≤ e ∧ v = .int (t x + e) ∧ SX [d] H' H4 ∧ DL H4 d) (am_opR (va_op (va_var rfl) (va_var rfl) (vr_xHl (f := fun i => .int (t i)) ht hx)) (am_cb2 (P2 := fun v H4 => ∃ e : Int, 0 ≤ e ∧ v = .int e ∧ SX [d] H' H4 ∧ DL H4 d) (am_op (P2 := fun v H4 => ∃ e : Int, v = .int e ∧ SX [d] H' H4 ∧ DL H4 d) (am_take hd' (va_var rfl) va_c (by decide)) fun v H4 ⟨k, ev, _, _, S4, hd4⟩ => ⟨.int 7, .int (k - 7), va_c, by rw [ev]; exact vr_sub, k - 7, rfl, S4, hd4⟩) fun v H4 ⟨e, ev, S4, hd4⟩ => ⟨.int (if e > 0 then e else 0), by rw [ev]; exact vc_max2, _, by split <;> omega, rfl, S4, hd4⟩) fun v H4 ⟨e, e0, ev, S4, hd4⟩ => ⟨.int (t x + e), by rw [ev]; exact vr_add, e, e0, rfl, S4, hd4⟩) fun v H4 ⟨e, e0, ev, S4, hd4⟩ => ?_
      subst ev
      have ht4 := S4.at ntd ht
      refine st_setL (j := x) (n := n) va_c (va_var rfl) (va_var rfl) ht4 hx ?_
      refine ⟨some (.int (x : Int)), up t x (t x + e), rfl, (S.trans S4).new nt, hd4.put (hd.ne nt), ?_, kept_more hkp fun i hi => ?_, fun i hi => ?_⟩
      · rw [upd_same]
        exact congrArg (fun l => some (HO.lst l)) (tab_congr fun i hi => by
          by_cases c : i = x
          · subst c; rw [up_same, up_same]
          · rw [up_ne c, up_ne c])
      · by_cases c : i = x
        · subst c; rw [up_same]; omega
        · rw [up_ne c]; exact Int.le_refl _
      · by_cases c : i = x
        · subst c; rw [up_same]; have := hnn i hi; omega
        · rw [up_ne c]; exact hnn i hi
    · subst es
      refine st_retA (al_tupL (K := K) (va_var (v := .ref tA) rfl) (SqL.of ht)) fun v H4 S4 ⟨p, ev, np, hp⟩ => ?_
      subst ev
      exact q p t H4 (S.same S4) (hd'.same S4) (SqT.of hp) hkp hnn
end
end K45
set_option Elab.async false
set_option linter.all false
set_option maxRecDepth 100000
set_option maxHeartbeats 200000
namespace K45
open PySem PySem.Spec PyProof.Rows L2
section
variable {P : Program} {w : World} {K : PySem.W.Frag} {mg : Str → Option Value} {base : Heap}
/-- [te for j in range(n)], where te takes from d -/
theorem am_lcR {σ : L2.St} {H : Hp} {tr : TA} {j n : Nat} {te : TE} {vs : List Nat} {d : Addr} {Good : V → Prop} (h : Vs tr σ H [.int (n : Int)]) (hn : n < 100000) (hd : DL H d) (hw : ∀ i : Nat, wipe ((wipe σ vs).set j (some (.int (i : Int)))) vs = wipe σ vs)
    (hs : ∀ i H1, i < n → DL H1 d → Am te ((wipe σ vs).set j (some (.int (i : Int)))) H1 (fun v H2 => SX [d] H1 H2 ∧ DL H2 d ∧ Good v)) :
    Am (tLc (iRng1 tr) (gName j) tYes te vs) σ H (fun v H' => ∃ p zs, v = .ref p ∧ H p = none ∧ H' p = some (.lst zs) ∧ zs.length = n ∧ (∀ z, z ∈ zs → Good z) ∧ SX [d] H H' ∧ DL H' d) := fun Q q => by
  refine h _ ⟨(n : Int), rfl, by omega, by omega, fun D hD => ?_⟩
  have hDd : D ≠ d := hd.ne hD
  refine ⟨fun i m H' => m = n - i ∧ i ≤ n ∧ ∃ xs, SX [d] H H' ∧ DL H' d ∧ H' D = some (.lst xs) ∧ xs.length = i ∧ ∀ z, z ∈ xs → Good z, ⟨n, by simp, Nat.zero_le _, [], .of (same_new hD), hd.same (same_new hD), upd_same, rfl, fun z hz => by cases hz⟩, ?_⟩
  rintro i m H' ⟨rfl, hi, xs, S, hd', eD, hl, hg⟩
  by_cases hlt : i < n
  · refine .inr ⟨(by show i < ((n : Int)).toNat; simpa using hlt), fun H'' => i + 1 ≤ n ∧ ∃ xs, SX [d] H H'' ∧ DL H'' d ∧ H'' D = some (.lst xs) ∧ xs.length = i + 1 ∧ ∀ z, z ∈ xs → Good z, fun H'' p' => ⟨n - (i + 1), by omega, rfl, p'⟩, fun x H2 y => ?_⟩
    obtain ⟨e1, e2⟩ := y
    subst e1 e2
    have e0 : (0 : Int) + (i : Int) = (i : Int) := Int.zero_add _
    have gq : ∀ (Q2 : L2.St → Hp → Prop) H3, Q2 ((wipe σ vs).set j (some (.int (i : Int)))) H3 → gName j (.int ((0 : Int) + (i : Int))) (wipe σ vs) H3 Q2 := fun Q2 H3 r => by
      show Q2 ((wipe σ vs).set j (some (.int ((0 : Int) + (i : Int))))) H3
      rw [e0]; exact r
    refine gq _ _ ⟨hw i, ?_⟩
    refine at_yes _ fun H6 S6 => iteT (hs i _ hlt (hd'.same S6) _ fun v H5 ⟨S5, hd5, gv⟩ => ⟨xs, S5.at (fun z => hDd (List.mem_singleton.mp z)) (S6 _ _ eD), small_lt (by omega), hlt, _, ((S.same S6).trans S5).new hD, hd5.put hDd, upd_same, by rw [List.length_append, hl]; rfl, fun z hz => ?_⟩)
    rcases List.mem_append.mp hz with hz | hz
    · exact hg z hz
    · rw [List.mem_singleton.mp hz]; exact gv
  · have e : i = n := by omega
    subst e
    exact .inl ⟨(by show ((i : Nat) : Int).toNat ≤ i; simp), q _ _ ⟨D, xs, rfl, hD, eD, hl, hg, S, hd'⟩⟩
end
end K45
set_option Elab.async false
set_option linter.all false
set_option maxRecDepth 100000
set_option maxHeartbeats 200000
namespace K45
open PySem PySem.Spec PyProof.Rows L2
/-! ### the error Barred -/
def clsS (s : Stmt) (i : Nat) : Stmt := match s with
  | .ClassDef _ _ _ b _ _ _ _ _ _ _ => b.getD i (.Pass ⟨0, 0, 0, 0⟩)
  | _ => .Pass ⟨0, 0, 0, 0⟩
abbrev s_init : Stmt := clsS (topS 4) 0
theorem sc_init : FnScope ["self", "ring"] ["self", "ring"] (defScope s_init) := ⟨rfl, rfl, rfl, by decide +kernel, rfl, by decide +kernel, by decide +kernel⟩
structure ExnT (K : PySem.W.Frag) (mg : Str → Option Value) (C fI : Addr) : Prop where
  gC : mg "Barred" = some (.ref C)
  oex : OexC K C
  iC : PySem.W.findIn K (.ref C) "__init__" = some (some (.ref fI))
  tI : PySem.W.typeIn K (.ref fI) = some (.type "function")
  no : PySem.W.findIn K (.ref C) "ring" = some none
  xf : XfC K C
  te : PySem.W.exmOne K (.ref C) (.ref C) = some true
  fn : ∃ fd, Fun K "__init__" "Barred.__init__" s_init fI fd ∧ Binds K fd ["self", "ring"] []
section
variable {P : Program} {w : World} {K : PySem.W.Frag} {mg : Str → Option Value} {base : Heap}
def spInit (K : PySem.W.Frag) : Sp := fun vs H Q _ => ∃ (a C rA : Addr), vs = [.ref a, .ref rA] ∧ OexC K C ∧ PySem.W.findIn K (.ref C) "ring" = some none ∧ H a = some (exo a C none) ∧
  ∀ dx, H dx = none → dx ≠ a → Q .non (upd (upd H dx (exd dx [("ring", .ref rA)])) a (exo a C (some dx)))
theorem ok_init {f : Addr} {fd : FuncData} (F : Fun K "__init__" "Barred.__init__" s_init f fd) : FnOk P w K mg base CX0 1 f fd ["self", "ring"] (spInit K) := by
  refine F.ok sc_init (fun vs H Q E h => ?_) (fun cdv A outer s H vs Q E hr h => ⟨tOst K "ring" (tVar 0) (tVar 1), pss_one (ps_ost (pv 0) (pv 1)), ?_⟩)
  · obtain ⟨a, C, rA, rfl, _⟩ := h; rfl
  obtain ⟨a, C, rA, rfl, hO, hno, ha, q⟩ := h
  unfold tOst
  exact va_var (v := .ref rA) rfl _ (va_var (v := .ref a) rfl _ ⟨a, C, rfl, hO, hno, .inl ⟨ha, fun dx n ne => q dx n ne⟩⟩)
end
section
variable {X : Cx}
/-- C(e, ..), C's own __init__ keeping sp: what is made has no context -/
theorem pmk_oexN {e : Expr} {es : List Expr} {ta : TA} {p pos : Pos} {x : Str} {C fI : Addr} {k : Nat} {fd : FuncData} {ps : List Str} {sp : Sp} (T : OexC X.K C) (iC : PySem.W.findIn X.K (.ref C) "__init__" = some (some (.ref fI))) (tI : PySem.W.typeIn X.K (.ref fI) = some (.type "function"))
    (F1 : FnOk X.prog X.w X.K X.mg X.base CX0 k fI fd ps sp) (hr : Room (k + 1) X.A) (hb : Binds X.K fd ps []) (hg : Gl X x) (hm : X.mg x = some (.ref C)) (ha : PA X (e :: es) ta)
    (hdb : (x == ("__debug__" : Str)) = false := by decide) (he : starEach (e :: es) X.env = (false, eval e X.env) :: starEach es X.env := by rfl) (hpl : (backTo pos (starEach es X.env)).any (·.1) = false := by rfl) :
    L2N.PMk X (.Call (.Name x p) (e :: es) [] pos) (tMkO C sp [] ta) := by
  intro pins s σ H Q I h
  obtain ⟨nm, q, N, bs, bm, sn, sub, ab, col, dd, k0, k1, k2, k3, k5, hC, hbm⟩ := T.cls
  refine wpAny_Call_Name_kw (ld_glob I hg hm ?_ hdb)
  refine PySem.W.callWith_K (h₀ := X.base) I.ok.mod.kin T.kC (thn (ha.run pos pins s σ H _ I h) fun us s1 ⟨vs, H1, I1, r1, hz, q1⟩ => ⟨I1.kIn, ?_⟩) he hpl
  show wpAny _ _ (call (.ref C) us) _ _ _
  obtain ⟨hp, g, dr, tk, os⟩ := s1
  have hsz : hp.objs.size ≤ hp.objs.size + 1 := Nat.le_succ _
  have hq := q1 (hp.objs.size + 1) (I1.hok.fresh hsz)
  rw [List.append_nil] at hq
  have kk : ∀ b o, hp.get? b = some o → ((hp.push (PySem.W.kdv_tup us)).push (PySem.HandSPX.excO C hp.objs.size)).get? b = some o := fun b o e => Heap.get?_push_of_some _ (Heap.get?_push_of_some _ e)
  have hget : ((hp.push (PySem.W.kdv_tup us)).push (PySem.HandSPX.excO C hp.objs.size)).get? (hp.objs.size + 1) = some (PySem.HandSPX.excO C hp.objs.size) := by heap_get
  have I2 : Inv X pins σ (upd H1 (hp.objs.size + 1) (exo (hp.objs.size + 1) C none)) ⟨(hp.push (PySem.W.kdv_tup us)).push (PySem.HandSPX.excO C hp.objs.size), g, dr, tk, os⟩ :=
    I1.laid (t' := tk) (a := hp.objs.size + 1) (o := exo (hp.objs.size + 1) C none) (h' := (hp.push (PySem.W.kdv_tup us)).push (PySem.HandSPX.excO C hp.objs.size)) kk hsz (exo_ok hget)
  have r2 : Vals (V.ref (hp.objs.size + 1) :: vs) (Value.ref (hp.objs.size + 1) :: us) := .cons rfl r1
  have hl : (Value.ref (hp.objs.size + 1) :: us ++ []).length = ps.length := by
    have e := r2.length
    rw [F1.len _ _ _ _ hq] at e
    rw [List.append_nil]; exact e.symm
  have hus : us.length ≤ sizeLine := by
    rw [← Paired.length r1, sizeLine_eq]; omega
  have b2 := hb _ (Value.ref (hp.objs.size + 1) :: us) I2.kIn hl
  rw [List.append_nil] at b2
  refine wpAny_call (PySem.HandSPX.call_own F.excBase_ValueError (fun Y => PySem.HandSPX.refsVE_contains Y bm hbm) (I1.kIn _ _ hC) (PySem.W.looks_findIn I1.kIn iC) (fun self => PySem.W.bind_fn I1.kIn self tI) hus
    (codeAny_mono (F1.run _ X.stack _ _ ⟨Value.ref (hp.objs.size + 1) :: us, []⟩ (Value.ref (hp.objs.size + 1) :: us) _ _ (fun _ _ _ => False) (hr.make C us []) (I2.env0.make C us []) b2 r2 hq) fun r s' hq' => ?_))
  cases r with
  | error er => exact False.elim hq'
  | ok fl =>
    cases fl with
    | ret u =>
      obtain ⟨v, H2, os2, bare2, un2, hok2, rv, ev, d, fs, ea, ed, hd1, q2⟩ := hq'
      subst ev
      obtain ⟨h2, g2, d2, t2, os'⟩ := s'
      obtain ⟨t0, G, J, kG, ge, hoe, na⟩ := mk_end0 (d2 := d2) (t2 := t2) I1 hsz kk un2 hok2 os2 bare2 ea ed hd1
      exact ⟨rv, hp.objs.size + 1, _, _, ⟨G, g2, d2, t2, os'⟩, _, .ref C, some d, rfl, J, kG, ge, hoe, ⟨rfl, rfl, fun vs hv => by cases hv; rfl⟩, rfl, rfl, na, rfl, bare2, raises_own T.exC T.tyC, q2⟩
    | next => exact False.elim hq'
    | brk => exact False.elim hq'
    | cont => exact False.elim hq'
/-- as Fun.okX, of exceptions without a context -/
theorem okXN {P : Program} {w : World} {K : PySem.W.Frag} {mg : Str → Option Value} {base : Heap} {x qual : Str} {st : Stmt} {f : Addr} {fd : FuncData} {N ps : List Str} {k : Nat} {sp : Sp} (F : Fun K x qual st f fd) (S : FnScope N ps (defScope st)) (len : ∀ vs H Q E, sp vs H Q E → vs.length = ps.length)
    (hbody : ∀ (cdv : Value) (A : Around) (outer : List Env) (s : Shared) (H : Hp) (vs : List V) (Q : VK) (E : XK), Room k (A.deeper (envOfC qual (defScope st) s.heap.objs.size f cdv)) → sp vs H Q E →
      ∃ t, PSs (cxOf (L2N.CX P w) P w K mg base N qual (defScope st) f cdv A outer s H E) (defBody st) t ∧ t { nx := fun _ H' => Q .non H', rt := Q } (start N vs) H) : FnOk P w K mg base (L2N.CX P w) (k + 1) f fd ps sp := by
  obtain ⟨oc, od, kV, doc, pm, an, cdv, ct, osl, rfl, lk, hcd⟩ := F.ex
  exact fn_of lk hcd S len fun A outer s H vs Q E hr hsp => hbody cdv A outer s H vs Q E hr hsp
end
section
variable {P : Program} {w : World} {K : PySem.W.Frag} {mg : Str → Option Value} {base : Heap}
/-- what a raised Barred tells -/
def Bar (K : PySem.W.Frag) (C : Addr) (n : Nat) (u : Gr) (H : Hp) (E : XK) : Prop := ∀ (d rA : Addr) (p : Nat) (c : Nat → Nat) (H' : Hp), Same H H' → H' d = some (.xd [("ring", .ref rA)]) → PT H' rA (tab p fun i => .int (c i : Nat)) → IsRing n u p c → 0 < rsum u p c → E (.ref C) (some d) H'
theorem Bar.same {C : Addr} {n : Nat} {u : Gr} {H H1 : Hp} {E : XK} (h : Bar K C n u H E) (S : Same H H1) : Bar K C n u H1 E := fun d rA p c H' S' => h d rA p c H' (S.trans S')
def spGainsX (K : PySem.W.Frag) (C : Addr) : Sp := fun vs H _ E => ∃ (n : Nat) (a b : Addr) (g : Gr) (t : Nat → Int), vs = [.ref a, .ref b] ∧ TW K H n a b g t ∧ ¬ Kept n g t ∧ Bar K C n (gn g t) H E
def t_gainsX (K : PySem.W.Frag) (C : Addr) (E : XK) : TS := (tSeq (tAsg (tCall (spStepGains K) [] E0 (tCons (tVar 0) (tCons (tVar 1) tNil))) (gName 2))
    (tSeq (tAsg (tOp (rIx K) (tCall (spGreatest K) [] E0 (tCons (tVar 2) tNil)) (tC (.int 1))) (gName 3))
    (tSeq (tIfS (tTest (tOp kNotN (tVar 3) (tC .non))) (fun _ σ H => tMkO C (spInit K) [] (tCons (tVar 3) tNil) σ H fun cls d H' => E cls d H') tNext)
    (tRet (tVar 2)))))
theorem ok_gainsX {C fI f : Addr} {fd : FuncData} (T : Txt K mg) (X : ExnT K mg C fI) (F : Fun K "gains_if_kept" "gains_if_kept" s_gains_if_kept f fd) : FnOk P w K mg base (L2N.CX P w) 3 f fd ["table", "waits"] (spGainsX K C) := by
  obtain ⟨fdI, FI, bI⟩ := X.fn
  refine okXN F sc_gains_if_kept (fun vs H Q E h => ?_) (fun cdv A outer s H vs Q E hr h => ⟨t_gainsX K C E, ?_, ?_⟩)
  · obtain ⟨n, a, b, g, t, rfl, _⟩ := h; rfl
  · have nd := sc_gains_if_kept.nd
    exact (pss_cons (ps_set (i := 2) nd rfl (Or.inl rfl) (pe_cal (cal_step_gains T) hr (by decide) (by rfl) (pa_cons (pv 0) (pa_cons (pv 1) pa_nil))))
      (pss_cons (ps_set (i := 3) nd rfl (Or.inl rfl) (pe_ix ix_seq (pe_cal (cal_greatest_sums T) hr (by decide) (by rfl) (pa_cons (pv 2) pa_nil)) pe_int (fun _ _ => rfl)))
      (pss_cons (ps_if (pt_cmpR k_notN (pv 3) pe_non (nomark _)) (pss_one (L2N.ps_raise rfl (L2N.takes_of rfl rfl rfl rfl) (pmk_oexN X.oex X.iC X.tI (ok_init FI) (hr.mono (by decide)) bI (by rfl) X.gC (pa_cons (pv 3) pa_nil)))) pss_nil)
      (pss_one (ps_ret (pv 2))))))
  obtain ⟨n, a, b, g, t, rfl, hT, hk, q⟩ := h
  unfold t_gainsX
  refine q_asgA (al_sg hT (va_var rfl) (va_var rfl)) fun v H1 S1 ⟨G, ev, hG⟩ => ?_
  subst ev
  refine q_asgA (al_ringAt (al_gsV hT.one hT.le (gn_self g t) (va_var rfl) hG)) fun v H2 S2 hR => ?_
  rcases hR with ⟨_, hf⟩ | ⟨rA, p, c, ev, hP, hr, hs⟩
  · exact absurd hf hk
  subst ev
  refine q_ifT (vt_test (va_op (va_var rfl) va_c vr_notNr)) ?_
  refine vs_cons (va_var (v := .ref rA) rfl) vs_nil _ ⟨by simp, fun e he => ⟨e, C, rA, rfl, X.oex, X.no, upd_same, fun dx hdx ne => ⟨rfl, dx, [("ring", .ref rA)], upd_same, by rw [upd_ne ne, upd_same], by rw [upd_ne ne] at hdx; exact hdx, ?_⟩⟩⟩
  have hdx2 : H2 dx = none := by rw [upd_ne ne] at hdx; exact hdx
  have S3 : Same H2 (upd (del (upd (upd (upd H2 e (exo e C none)) dx (exd dx [("ring", .ref rA)])) e (exo e C (some dx))) e) dx (.xd [("ring", .ref rA)])) := fun z u hz => by
    have z1 : z ≠ e := fun y => by rw [y, he] at hz; cases hz
    have z2 : z ≠ dx := fun y => by rw [y, hdx2] at hz; cases hz
    rw [upd_ne z2, del_ne z1, upd_ne z1, upd_ne z2, upd_ne z1]; exact hz
  exact q dx rA p c _ ((S1.trans S2).trans S3) upd_same (hP.same S3) hr hs
theorem q_asgX {σ : L2.St} {H : Hp} {sp sp2 : Sp} {E : XK} {tr tq : TA} {tb : TE} {r : V → V → Hp → VK → Prop} {vs : List V} {g : TG} {tz : TS} {D : Ends} (h : Vs tr σ H vs) (k : ∀ Q : VK, sp vs H Q E) : tSeq (tAsg (tOp r (tCall sp2 [] E0 (tCons (tCall sp [] E tr) tq)) tb) g) tz D σ H := h _ (by rw [List.append_nil]; exact k _)
def spRoomX (K : PySem.W.Frag) (C : Addr) : Sp := fun vs H _ E => ∃ (n : Nat) (a b : Addr) (g : Gr) (t : Nat → Int) (x y : Nat), vs = [.ref a, .ref b, .int (x : Int), .int (y : Int)] ∧ TW K H n a b g t ∧ NN n t ∧ ¬ Kept n g t ∧ x < n ∧ y < n ∧ y ≠ x ∧ Bar K C n (gn g t) H E
def t_roomX (K : PySem.W.Frag) (C : Addr) (E : XK) : TS := (tSeq (tDrop (tCall (spNeedWaits K) [] E0 (tCons (tCB (cLen K) (tCons (tVar 0) tNil)) (tCons (tVar 1) tNil))))
    (tSeq (tDrop (tCall spNeedPair [] E0 (tCons (tCB (cLen K) (tCons (tVar 0) tNil)) (tCons (tVar 2) (tCons (tVar 3) tNil)))))
    (tSeq (tAsg (tOp (rIx K) (tCall (spSumsTo K) [] E0 (tCons (tCall (spGainsX K C) [] E (tCons (tVar 0) (tCons (tVar 1) tNil))) (tCons (tVar 2) tNil))) (tC (.int 0))) (gName 4))
    (tRet (tCall (spRoomBy K) [] E0 (tCons (tVar 1) (tCons (tVar 2) (tCons (tOp (rIx K) (tVar 4) (tVar 3)) tNil))))))))
theorem ok_roomX {C fI f fG : Addr} {fd fdG : FuncData} (T : Txt K mg) (X : ExnT K mg C fI) (F : Fun K "room_of" "room_of" s_room_of f fd) (FG : Fun K "gains_if_kept" "gains_if_kept" s_gains_if_kept fG fdG) (gG : mg "gains_if_kept" = some (.ref fG)) (bG : Binds K fdG ["table", "waits"] []) : FnOk P w K mg base (L2N.CX P w) 6 f fd ["table", "waits", "door", "other"] (spRoomX K C) := by
  refine okXN F sc_room_of (fun vs H Q E h => ?_) (fun cdv A outer s H vs Q E hr h => ⟨t_roomX K C E, ?_, ?_⟩)
  · obtain ⟨n, a, b, g, t, x, y, rfl, _⟩ := h; rfl
  · have nd := sc_room_of.nd
    exact (pss_cons (ps_expr (pe_cal (cal_need_table_waits T) hr (by decide) (by rfl) (pa_cons (pe_callB k_len (by rfl) T.B.len_ (by decide +kernel) (pa_cons (pv 0) pa_nil)) (pa_cons (pv 1) pa_nil))))
      (pss_cons (ps_expr (pe_cal (cal_need_table_pair T) hr (by decide) (by rfl) (pa_cons (pe_callB k_len (by rfl) T.B.len_ (by decide +kernel) (pa_cons (pv 0) pa_nil)) (pa_cons (pv 2) (pa_cons (pv 3) pa_nil)))))
      (pss_cons (ps_set (i := 4) nd rfl (Or.inl rfl) (pe_ix ix_seq (pe_cal (cal_sums_to T) hr (by decide) (by rfl) (pa_cons (pe_call (ok_gainsX T X FG) (hr.mono (by decide)) (by rfl) gG FG.kp bG .nil (L2N.passes_call (L2N.takes_of rfl rfl rfl rfl) fun _ _ _ _ h => h) (pa_cons (pv 0) (pa_cons (pv 1) pa_nil))) (pa_cons (pv 2) pa_nil))) pe_int (fun _ _ => rfl)))
      (pss_one (ps_ret (pe_cal (cal_room_by T) hr (by decide) (by rfl) (pa_cons (pv 1) (pa_cons (pv 2) (pa_cons (pe_ix ix_seq (pv 4) (pv 3) (fun _ _ => rfl)) pa_nil)))))))))
  obtain ⟨n, a, b, g, t, x, y, rfl, hT, h0, hk, hx, hy, hxy, q⟩ := h
  unfold t_roomX
  refine q_dropA (al_ntw hT h0 (va_var rfl) (va_var rfl)) fun v H1 S1 _ => ?_
  have hT1 := hT.mono S1
  refine q_drop (v := .non) (va_call (z := .non) (vs_cons (va_cb (vs_cons (va_var rfl) vs_nil) (vc_lenTT hT1.tab)) (vs_cons (va_var rfl) (vs_cons (va_var rfl) vs_nil))) fun Q E q => ⟨(n : Int), (x : Int), (y : Int), rfl, by omega, by omega, by omega, by omega, by omega, q⟩) ?_
  exact q_asgX (vs_cons (va_var (v := .ref a) rfl) (vs_cons (va_var (v := .ref b) rfl) vs_nil)) fun Q2 => ⟨n, a, b, g, t, rfl, hT1, hk, q.same S1⟩
end
end K45
set_option Elab.async false
set_option linter.all false
set_option maxRecDepth 100000
set_option maxHeartbeats 200000
namespace K45
open PySem PySem.Spec PyProof.Rows L2
/-! ### walks where an exception is handled -/
open HotX L2H
section
variable {prog : Program} {w : World} {A : Around} {E : Value → Shared → Prop} {s : Shared}
/-- the record of an iterator is not the exception's -/
theorem hot_ne {x1 it : Addr} {h : Heap} {o : Obj} {u v : Value} (hot : HotAt A x1 h) (ho : h.get? it = some o) (hd : o.data = .fields #[u, v]) : x1 ≠ it := fun z => by
  obtain ⟨_, o1, vs1, h1, d1, c1⟩ := hot
  rw [z, ho] at h1
  cases h1
  rw [hd] at d1
  cases d1
  simp at c1
theorem hot_kept {x1 : Addr} {h h' : Heap} (hot : HotAt A x1 h) (k : ∀ o, h.get? x1 = some o → h'.get? x1 = some o) : HotAt A x1 h' :=
  let ⟨hh, o, vs, e, d, c⟩ := hot
  ⟨hh, o, vs, k _ e, d, c⟩
/-- a walk's end: the error that tells it bears the handled one as its context -/
theorem tup_end_hot {it t x1 : Addr} {i : Nat} {items : Array Value} {Q : Option Value → Shared → Prop} (hot : HotAt A x1 s.heap) (hit : s.heap.IsTupleIter it t i) (ht : s.heap.IsTuple t items) (hx : items[i]? = none)
    (hQ : ∀ h', Heap.ExtBut it s.heap h' → Q none { s with heap := h' }) : wpAny (model prog w) A (pyNext (.ref it)) Q E s := by
  obtain ⟨o, ho, hc, hd⟩ := id hit
  have hne : x1 ≠ it := hot_ne hot ho hd
  obtain ⟨hh, o1, vs1, h1, d1, c1⟩ := hot
  obtain ⟨ol, hol, _, nl, hdl⟩ := ht
  unfold pyNext
  refine wpAny_bind (wpAny_attempt (wpAny_callSpecial?_slot (name := Str.ofString "__next__") hit.typeIs F.slot_tuple_iterator_next
    (wpAny_call_entry F.slot_tuple_iterator_next hit.typeIs F.entry_tuple_iterator_next ?_ (F.args_tuple_iterator_next_1 _))))
  show wpAny _ _ (field (.ref it) 0 >>= _) _ _ s
  refine wpAny_bind (wpAny_field ho hd (x := .ref t) rfl ?_)
  show wpAny _ _ (if (Value.ref t == Value.none) = true then _ else _) _ _ s
  rw [if_neg (show ¬ ((Value.ref t == Value.none) = true) from Bool.false_ne_true)]
  show wpAny _ _ (field (.ref it) 1 >>= _) _ _ s
  refine wpAny_bind (wpAny_field ho hd (x := .int i 0) rfl ?_)
  show wpAny _ _ (seqItems? (.ref t) >>= _) _ _ s
  refine wpAny_bind (wpAny_seqItems hol hdl ?_)
  simp only [Int.toNat_natCast, hx]
  refine wpAny_bind (wpAny_rule (wpAny_bind (wpAny_setField ho hd (by simp) ?_)))
  show wpAny _ _ (newExc (.type "StopIteration") [] >>= _) _ _ _
  refine wpAny_bind ?_
  simp only [newExc, newTuple]
  refine wpAny_bind (wpAny_newObj_type ?_ (by size_fits))
  refine wpAny_bind (m := firstArgMember _ _) (wpAny_of_eq (a := Value.none) (by first | rfl | (simp only [firstArgMember]; rfl)) ?_)
  refine wpAny_newObj_type ?_ (by size_fits)
  have kk : ∀ (f : Obj → Obj) b o, b ≠ it → s.heap.get? b = some o → (s.heap.update it f).get? b = some o := fun f b o hb e => by
    rw [Heap.get?_update_other _ _ (Ne.symm hb)]; exact e
  refine raiseNew_hot (x1 := x1) ⟨hh, o1, vs1, Heap.get?_push_of_some _ (Heap.get?_push_of_some _ (kk _ _ _ hne h1)), d1, c1⟩ (Nat.ne_of_lt (Heap.lt_size (Heap.get?_push_of_some _ (kk _ _ _ hne h1)))) (Heap.get?_push_size _ rfl) rfl (by first | (simp; done) | (simp; omega) | (simp only [Array.size_append]; simp; omega)) ?_
  refine wpAny_bind (wpAny_isInstance (T := "StopIteration") (b := true) ⟨_, Heap.get?_update_self _ (Heap.get?_push_size _ rfl) rfl, rfl⟩ isSubtype_stop ?_)
  refine wpAny_pure (hQ _ fun b o hb e => ?_)
  rw [Heap.get?_update_other _ _ (Nat.ne_of_gt (Heap.lt_size (Heap.get?_push_of_some _ (kk _ b o hb e))))]
  exact Heap.get?_push_of_some _ (Heap.get?_push_of_some _ (kk _ b o hb e))
/-- a walk's end: the error that tells it bears the handled one as its context -/
theorem lst_end_hot {it t x1 : Addr} {i : Nat} {items : Array Value} {Q : Option Value → Shared → Prop} (hot : HotAt A x1 s.heap) (hit : s.heap.IsListIter it t i) (ht : s.heap.IsList t items) (hx : items[i]? = none)
    (hQ : ∀ h', Heap.ExtBut it s.heap h' → Q none { s with heap := h' }) : wpAny (model prog w) A (pyNext (.ref it)) Q E s := by
  obtain ⟨o, ho, hc, hd⟩ := id hit
  have hne : x1 ≠ it := hot_ne hot ho hd
  obtain ⟨hh, o1, vs1, h1, d1, c1⟩ := hot
  obtain ⟨ol, hol, _, nl, hdl⟩ := ht
  unfold pyNext
  refine wpAny_bind (wpAny_attempt (wpAny_callSpecial?_slot (name := Str.ofString "__next__") hit.typeIs slot_listiter_next
    (wpAny_call_entry slot_listiter_next hit.typeIs entry_listiter_next ?_ (args_listiter_next _))))
  show wpAny _ _ (field (.ref it) 0 >>= _) _ _ s
  refine wpAny_bind (wpAny_field ho hd (x := .ref t) rfl ?_)
  show wpAny _ _ (if (Value.ref t == Value.none) = true then _ else _) _ _ s
  rw [if_neg (show ¬ ((Value.ref t == Value.none) = true) from Bool.false_ne_true)]
  show wpAny _ _ (field (.ref it) 1 >>= _) _ _ s
  refine wpAny_bind (wpAny_field ho hd (x := .int i 0) rfl ?_)
  show wpAny _ _ (seqItems? (.ref t) >>= _) _ _ s
  refine wpAny_bind (wpAny_seqItems hol hdl ?_)
  simp only [Int.toNat_natCast, hx]
  refine wpAny_bind (wpAny_rule (wpAny_bind (wpAny_setField ho hd (by simp) ?_)))
  show wpAny _ _ (newExc (.type "StopIteration") [] >>= _) _ _ _
  refine wpAny_bind ?_
  simp only [newExc, newTuple]
  refine wpAny_bind (wpAny_newObj_type ?_ (by size_fits))
  refine wpAny_bind (m := firstArgMember _ _) (wpAny_of_eq (a := Value.none) (by first | rfl | (simp only [firstArgMember]; rfl)) ?_)
  refine wpAny_newObj_type ?_ (by size_fits)
  have kk : ∀ (f : Obj → Obj) b o, b ≠ it → s.heap.get? b = some o → (s.heap.update it f).get? b = some o := fun f b o hb e => by
    rw [Heap.get?_update_other _ _ (Ne.symm hb)]; exact e
  refine raiseNew_hot (x1 := x1) ⟨hh, o1, vs1, Heap.get?_push_of_some _ (Heap.get?_push_of_some _ (kk _ _ _ hne h1)), d1, c1⟩ (Nat.ne_of_lt (Heap.lt_size (Heap.get?_push_of_some _ (kk _ _ _ hne h1)))) (Heap.get?_push_size _ rfl) rfl (by first | (simp; done) | (simp; omega) | (simp only [Array.size_append]; simp; omega)) ?_
  refine wpAny_bind (wpAny_isInstance (T := "StopIteration") (b := true) ⟨_, Heap.get?_update_self _ (Heap.get?_push_size _ rfl) rfl, rfl⟩ isSubtype_stop ?_)
  refine wpAny_pure (hQ _ fun b o hb e => ?_)
  rw [Heap.get?_update_other _ _ (Nat.ne_of_gt (Heap.lt_size (Heap.get?_push_of_some _ (kk _ b o hb e))))]
  exact Heap.get?_push_of_some _ (Heap.get?_push_of_some _ (kk _ b o hb e))
theorem walks_tupH {x1 I ax : Addr} {items : Array Value} (hne : ax ≠ I) (hxI : x1 ≠ I) : Walks prog w A I (I :: ax :: [x1]) [I] items.size (fun i v => items[i]? = some v) (fun i h => h.IsTupleIter I ax i ∧ h.IsTuple ax items ∧ HotAt A x1 h) where
  sub := fun b hb => by simp at hb; simp [hb]
  frame := fun _ _ _ st hk => ⟨st.1.at fun o e => hk I (by simp) o e, st.2.1.at fun o e => hk ax (by simp) o e, hot_kept st.2.2 fun o e => hk x1 (by simp) o e⟩
  item := fun i s Q E hi st hQ => by
    refine wpAny_pyNext_tuple_item st.1 st.2.1 (x := items[i]) (by simp [hi]) fun h' hit' hs' => ?_
    exact hQ _ h' s.toks (by simp [hi]) ⟨hit', st.2.1.extBut hs'.extBut hne, hot_kept st.2.2 fun o e => hs'.extBut x1 o hxI e⟩ fun b o hb e => hs'.extBut b o (fun h => hb (by simp [h])) e
  done := fun s Q E st hQ => tup_end_hot st.2.2 st.1 st.2.1 (by simp) fun h' he' => hQ h' s.toks fun b o hb e => he' b o (fun h => hb (by simp [h])) e
  self := fun _ _ _ _ st hQ => wpAny_pyIter_tupleiter st.1 hQ
theorem walks_lstH {x1 I ax : Addr} {items : Array Value} (hne : ax ≠ I) (hxI : x1 ≠ I) : Walks prog w A I (I :: ax :: [x1]) [I] items.size (fun i v => items[i]? = some v) (fun i h => h.IsListIter I ax i ∧ h.IsList ax items ∧ HotAt A x1 h) where
  sub := fun b hb => by simp at hb; simp [hb]
  frame := fun _ _ _ st hk => ⟨st.1.at fun o e => hk I (by simp) o e, st.2.1.at fun o e => hk ax (by simp) o e, hot_kept st.2.2 fun o e => hk x1 (by simp) o e⟩
  item := fun i s Q E hi st hQ => by
    refine wpAny_pyNext_list_item st.1 st.2.1 (x := items[i]) (by simp [hi]) fun h' hit' hs' => ?_
    exact hQ _ h' s.toks (by simp [hi]) ⟨hit', st.2.1.extBut hs'.extBut hne, hot_kept st.2.2 fun o e => hs'.extBut x1 o hxI e⟩ fun b o hb e => hs'.extBut b o (fun h => hb (by simp [h])) e
  done := fun s Q E st hQ => lst_end_hot st.2.2 st.1 st.2.1 (by simp) fun h' he' => hQ h' s.toks fun b o hb e => he' b o (fun h => hb (by simp [h])) e
  self := fun _ _ _ _ st hQ => wpAny_pyIter_listiter st.1 hQ
theorem tupW_hot {x1 : Addr} : TupW prog w A (fun h => HotAt A x1 h) [x1] := fun I ax items hne hI => walks_tupH hne fun z => hI (by simp [z])
end
theorem HotAt.lt {A : Around} {x1 : Addr} {h : Heap} (hot : HotAt A x1 h) : x1 < h.objs.size := by
  obtain ⟨_, o, _, e, _⟩ := hot
  exact Heap.lt_size e
theorem three_lt {a b c n d : Addr} (ha : a < n) (hb : b < n) (hc : c < n) (h : d ∈ a :: b :: [c]) : d < n := by
  rcases List.mem_cons.mp h with e | h
  · rw [e]; exact ha
  · rcases List.mem_cons.mp h with e | h
    · rw [e]; exact hb
    · rw [List.mem_singleton.mp h]; exact hc
/-! ### sum, max, set of a tuple -/
section
variable {X : Cx}
theorem k_sumH (hc : HotC X) : CallR X (.builtin "sum") (cSum X.K) := by
  intro pins s σ H vs us Q I r h
  obtain ⟨a, ns, rfl, hs, q⟩ := h
  obtain ⟨x1, hot⟩ := hc.at I
  have hx1 := HotAt.lt hot
  have hotN : ∀ ob : Obj, HotAt X.A.in1 x1 (s.heap.push ob) := fun ob => hot_kept (A := X.A.in1) hot fun o e => Heap.get?_push_of_some _ e
  rw [Vals.ref1 r]
  have val : ∀ {its : List Value}, Vals (ns.map V.int) its → ∀ (i : Nat) (v : Value), its.toArray[i]? = some v → ∃ t, v = .int (ns.getD i 0) t := fun rv i v hv => (ints_at rv (i := i) (by simpa using hv)).2
  have fin : ∀ {its : List Value}, Vals (ns.map V.int) its → ∀ (ob : Obj) h' tk t', (∀ b o, b ∉ [s.heap.objs.size] → (s.heap.push ob).get? b = some o → h'.get? b = some o) → EP X pins σ Q (.int (preSum (fun i => ns.getD i 0) its.toArray.size) t') { s with heap := h', toks := tk } := fun {its} rv ob h' tk t' hk => by
    have hlen : its.length = ns.length := by have := rv.length; rw [List.length_map] at this; exact this.symm
    have hps : preSum (fun i => ns.getD i 0) its.toArray.size = ns.sum := by rw [List.size_toArray, hlen, pre_range, range_getD]
    rw [hps]
    refine ⟨.int ns.sum, H, I.kept (t' := tk) fun b o e => ?_, ⟨t', rfl⟩, q⟩
    exact hk b o (fun hm => by
      rw [List.mem_singleton.mp hm] at e
      exact Nat.lt_irrefl _ (Heap.lt_size e)) (Heap.get?_push_of_some _ e)
  have sz : ∀ (ob : Obj) (b : Addr), b < s.heap.objs.size → b < (s.heap.push ob).objs.size := fun ob b hb => by rw [Heap.size_push]; exact Nat.lt_succ_of_lt hb
  have sz0 : ∀ ob : Obj, s.heap.objs.size < (s.heap.push ob).objs.size := fun ob => by rw [Heap.size_push]; exact Nat.lt_succ_self _
  rcases hs with hs | hs
  · obtain ⟨its, rv, pl, hz⟩ := I.list hs
    have hL := pl.isList
    have hlt : a < s.heap.objs.size := by obtain ⟨o, ho, _⟩ := id hL; exact Heap.lt_size ho
    refine call_sum_walkG (wpAny_pyIter_list hL ?_)
    exact ⟨s.heap.objs.size, _, _, _, _, _, fun i => ns.getD i 0, rfl, walks_lstH (A := X.A.in1) (x1 := x1) (I := s.heap.objs.size) (ax := a) (items := its.toArray) (Nat.ne_of_lt hlt) (Nat.ne_of_lt hx1), ⟨⟨_, Heap.get?_push_size _ rfl, rfl, rfl⟩, hL.at fun o e => Heap.get?_push_of_some _ e, hotN _⟩, fun b hb => three_lt (sz0 _) (sz _ _ hlt) (sz _ _ hx1) hb, val rv, fun h' tk t' hk => fin rv _ h' tk t' hk⟩
  · obtain ⟨its, rv, hT, hz⟩ := I.tuple hs
    have hT' : s.heap.IsTuple a its.toArray := hT
    have hlt : a < s.heap.objs.size := by obtain ⟨o, ho, _⟩ := id hT'; exact Heap.lt_size ho
    refine call_sum_walkG (wpAny_pyIter_tuple hT' ?_)
    exact ⟨s.heap.objs.size, _, _, _, _, _, fun i => ns.getD i 0, rfl, walks_tupH (A := X.A.in1) (x1 := x1) (I := s.heap.objs.size) (ax := a) (items := its.toArray) (Nat.ne_of_lt hlt) (Nat.ne_of_lt hx1), ⟨⟨_, Heap.get?_push_size _ rfl, rfl, rfl⟩, hT'.at fun o e => Heap.get?_push_of_some _ e, hotN _⟩, fun b hb => three_lt (sz0 _) (sz _ _ hlt) (sz _ _ hx1) hb, val rv, fun h' tk t' hk => fin rv _ h' tk t' hk⟩
theorem k_maxH (hc : HotC X) : CallR X (.builtin "max") (cMax X.K) := by
  intro pins s σ H vs us Q I r h
  obtain ⟨a, ns, rfl, hs, hne, q⟩ := h
  obtain ⟨x1, hot⟩ := hc.at I
  have hx1 := HotAt.lt hot
  have hotN : ∀ ob : Obj, HotAt X.A.in1 x1 (s.heap.push ob) := fun ob => hot_kept (A := X.A.in1) hot fun o e => Heap.get?_push_of_some _ e
  rw [Vals.ref1 r]
  have val : ∀ {its : List Value}, Vals (ns.map V.int) its → ∀ (i : Nat) (v : Value), its.toArray[i]? = some v → ∃ t, v = .int (ns.getD i 0) t := fun rv i v hv => (ints_at rv (i := i) (by simpa using hv)).2
  have szN : ∀ {its : List Value}, Vals (ns.map V.int) its → its.toArray.size = ns.length := fun rv => by
    have := rv.length
    rw [List.length_map] at this
    rw [List.size_toArray]; exact this.symm
  have fin : ∀ {its : List Value}, Vals (ns.map V.int) its → ∀ (ob : Obj) v h' tk, its.toArray[argBest (fun x y => decide (ns.getD x 0 > ns.getD y 0)) (its.toArray.size - 1)]? = some v → (∀ b o, b ∉ [s.heap.objs.size] → (s.heap.push ob).get? b = some o → h'.get? b = some o) → EP X pins σ Q v { s with heap := h', toks := tk } := fun {its} rv ob v h' tk hP hk => by
    rw [szN rv] at hP
    obtain ⟨h1, h2⟩ := argBest_gt (fun i => ns.getD i 0) (ns.length - 1)
    obtain ⟨t, ev⟩ := val rv _ v hP
    refine ⟨.int _, H, I.kept (t' := tk) fun b o e => ?_, ⟨t, ev⟩, q _ (getD_mem' (by omega)) fun y hy => ?_⟩
    · exact hk b o (fun hm => by
        rw [List.mem_singleton.mp hm] at e
        exact Nat.lt_irrefl _ (Heap.lt_size e)) (Heap.get?_push_of_some _ e)
    · obtain ⟨j, hj, ej⟩ := List.getElem_of_mem hy
      have := h2 j (by omega)
      rw [← ej]
      have e2 : ns.getD j 0 = ns[j] := by simp [List.getD, List.getElem?_eq_getElem hj]
      rw [← e2]
      exact this
  have sz : ∀ (ob : Obj) (b : Addr), b < s.heap.objs.size → b < (s.heap.push ob).objs.size := fun ob b hb => by rw [Heap.size_push]; exact Nat.lt_succ_of_lt hb
  have sz0 : ∀ ob : Obj, s.heap.objs.size < (s.heap.push ob).objs.size := fun ob => by rw [Heap.size_push]; exact Nat.lt_succ_self _
  rcases hs with hs | hs
  · obtain ⟨its, rv, pl, hz⟩ := I.list hs
    have hL := pl.isList
    have hlt : a < s.heap.objs.size := by obtain ⟨o, ho, _⟩ := id hL; exact Heap.lt_size ho
    refine call_max_walk (wpAny_pyIter_list hL ?_)
    exact ⟨s.heap.objs.size, _, _, _, _, _, _, rfl, walks_lstH (A := X.A.in1) (x1 := x1) (I := s.heap.objs.size) (ax := a) (items := its.toArray) (Nat.ne_of_lt hlt) (Nat.ne_of_lt hx1), ⟨⟨_, Heap.get?_push_size _ rfl, rfl, rfl⟩, hL.at fun o e => Heap.get?_push_of_some _ e, hotN _⟩, fun b hb => three_lt (sz0 _) (sz _ _ hlt) (sz _ _ hx1) hb, by rw [szN rv]; exact hne, CmpOf.ints_gt (fun i => ns.getD i 0) (val rv), fun v h' tk hP hk => fin rv _ v h' tk hP hk⟩
  · obtain ⟨its, rv, hT, hz⟩ := I.tuple hs
    have hT' : s.heap.IsTuple a its.toArray := hT
    have hlt : a < s.heap.objs.size := by obtain ⟨o, ho, _⟩ := id hT'; exact Heap.lt_size ho
    refine call_max_walk (wpAny_pyIter_tuple hT' ?_)
    exact ⟨s.heap.objs.size, _, _, _, _, _, _, rfl, walks_tupH (A := X.A.in1) (x1 := x1) (I := s.heap.objs.size) (ax := a) (items := its.toArray) (Nat.ne_of_lt hlt) (Nat.ne_of_lt hx1), ⟨⟨_, Heap.get?_push_size _ rfl, rfl, rfl⟩, hT'.at fun o e => Heap.get?_push_of_some _ e, hotN _⟩, fun b hb => three_lt (sz0 _) (sz _ _ hlt) (sz _ _ hx1) hb, by rw [szN rv]; exact hne, CmpOf.ints_gt (fun i => ns.getD i 0) (val rv), fun v h' tk hP hk => fin rv _ v h' tk hP hk⟩
theorem pe_lenSetTH {a : Expr} {ta : TE} {p p2 q pos : Pos} (hg : Gl X "len") (hm : X.mg "len" = none) (hg2 : Gl X "set") (hm2 : X.mg "set" = none) (hc : HotC X) (ha : PE X a ta)
    (na : starEach [a] X.env = (false, eval a X.env) :: starEach [] X.env := by rfl) : PE X (.Call (.Name "len" p) [.Call (.Name "set" p2) [a] [] q] [] pos) (tLenSetT X.K ta) := by
  refine ⟨fun pins s σ H Q I h => ?_⟩
  refine Call_ (ld_blt I hg hm boot_len ?_)
  refine PyProof.Rows.callWith_builtin1 (PyProof.Rows.args_cons ?_ rfl) rfl rfl
  refine Call_ (ld_blt I hg2 hm2 boot_set ?_)
  refine PyProof.Rows.callWith_type1 (PyProof.Rows.args_cons (thn (ha.run pins s σ H _ I h) fun v s1 ⟨x, H1, I1, r1, q1⟩ => PyProof.Rows.args_nil ?_) na) na rfl
  obtain ⟨l, ns, rfl, hq, hnd, hl, q1⟩ := q1
  cases r1
  obtain ⟨its, r, pl, hz⟩ := I1.tuple hq
  obtain ⟨x1, hot⟩ := hc.at I1
  have hlen : its.toArray.size = ns.length := by rw [List.size_toArray, ← r.length, List.length_map]
  refine call_set_tupW (tupW_hot (x1 := x1)) (show HotAt X.A.in1.in1.in1 x1 s1.heap from hot) (fun h h' hh k => hot_kept hh fun o e => k x1 (by simp) o e) (fun b hb => by rw [List.mem_singleton.mp hb]; exact HotAt.lt hot) (show s1.heap.IsTuple l its.toArray from pl) (by simpa using RZ.intsAre_vals r) (by rw [hlen]; unfold scanBound; omega) fun h' tk hS hk => ?_
  refine PyProof.Rows.args_nil ?_
  rw [hlen, RZ.firstMet_nodup hnd ns.length (Nat.le_refl _), List.take_length] at hS
  obtain ⟨o, es, ep, t, ho, hex, hd, _, _, _, hf, hn⟩ := hS
  have I2 : Inv X pins σ H1 { s1 with heap := h', toks := tk } := I1.kept fun b o e => hk b o (Heap.lt_size e) e
  exact call_len_set ho hex hd hf (by rw [hn] <;> omega) ⟨.int ns.length, H1, I2.tok _, ⟨_, by rw [hn]⟩, q1⟩
end
end K45
set_option Elab.async false
set_option linter.all false
set_option maxRecDepth 100000
set_option maxHeartbeats 200000
namespace K45
open PySem PySem.Spec PyProof.Rows L2
/-! ### comprehensions where an exception is handled: the block bears the exception's pin -/
open HotX L2H
abbrev blkH (X : Cx) (p : Addr × Obj) (s : Shared) (H : Hp) (scope : Scope) (cenv : Env) (fp : List Addr) : Cx := (X.blk s H scope cenv fp).tr [p] fun _ _ => False
theorem turn_tupH {P : Program} {w : World} {K : PySem.W.Frag} {tg : Expr} (a it : Addr) : TurnH P w K tg (Itt K a) [it] it (fun i h => h.IsTupleIter it a i) where
  mem := by simp
  obj := fun i h st b hb => by
    obtain rfl : b = it := by simpa using hb
    obtain ⟨o, e, c, d⟩ := st
    exact ⟨o, e, fun v z => by rw [d] at z; cases z⟩
  keep := fun i h h' st k => st.at fun o e => k it (by simp) o e
  item := by
    intro X hP hw hK hc i pins s σ H E I hf st hg
    subst hP hw hK
    obtain ⟨xs, x, hq, hx⟩ := hg
    obtain ⟨its, rv, p, hz⟩ := I.tuple hq
    obtain ⟨u, hu, ru⟩ := rv.get hx
    obtain ⟨f0, f1, f2, f3, f4, f5⟩ := hf it (by simp)
    refine wpAny_pyNext_tuple_item st (show s.heap.IsTuple a its.toArray from p) (x := u) (by simpa using hu) fun h' st' sb => ?_
    have I1 : Inv X pins σ H { s with heap := h' } := I.turned (t' := s.toks) (fun b o hb e => (sb.2 b hb).trans e) f0 f1 f3 f4 f5
    obtain ⟨o, e, c, d⟩ := id st'
    exact ⟨u, rfl, go_of (s := { s with heap := h' }) e c d (by decide) ⟨x, H, I1, ru, ⟨rfl, fun ys hy => by rw [I.tuple_inj hy hq]; exact hx⟩, st', fun b hb => (hf b hb).1⟩⟩
  done := by
    intro X hP hw hK hc i pins s σ H E I hf st hg
    subst hP hw hK
    obtain ⟨xs, hq, hx⟩ := hg
    obtain ⟨its, rv, p, hz⟩ := I.tuple hq
    obtain ⟨f0, f1, f2, f3, f4, f5⟩ := hf it (by simp)
    have hl := rv.length
    obtain ⟨x1, hot⟩ := hc.at I
    exact tup_end_hot hot st (show s.heap.IsTuple a its.toArray from p) (by simp; omega) fun h' eb => ⟨rfl, I.turned (t' := s.toks) (fun b o hb e => eb b o hb e) f0 f1 f3 f4 f5⟩
  self := fun _ _ _ _ _ st h => wpAny_pyIter_tupleiter st h
section
variable {X : Cx}
theorem pi_tupH {tg l : Expr} {tl : TE} (hl : PE X l tl) : PIH X tg l (iTup X.K tl) := by
  refine ⟨fun pins s σ H R I h => ?_⟩
  refine thn (hl.run pins s σ H _ I h) fun v s1 ⟨x, H1, I1, r1, q1⟩ => ?_
  obtain ⟨a, rfl, ⟨xs, hq⟩, q⟩ := q1
  cases r1
  obtain ⟨its, rv, p, hz⟩ := I1.tuple hq
  refine wpAny_pyIter_tuple (show s1.heap.IsTuple a its.toArray from p) ?_
  refine ⟨s1.heap.objs.size, [s1.heap.objs.size], _, _, H1, rfl, I1.kept (t' := s1.toks) fun b o e => Heap.get?_push_of_some _ e, turn_tupH a _, ⟨_, Heap.get?_push_size _ rfl, rfl, rfl⟩, fun b hb => ?_, q⟩
  obtain rfl : b = s1.heap.objs.size := by simpa using hb
  exact I1.fpOk (Nat.le_refl _) (I1.hok.fresh (Nat.le_refl _))
/-- the comprehension's run, what is done with the list told behind it -/
theorem lc_hot {pins : List (Addr × Obj)} {s : Shared} {σ : L2.St} {H : Hp} {Q : VK} {elt tg iter : Expr} {ifs : List Expr} {scope : Scope} {own : List (Str × Nat)} {pos pos' : Pos} {wi : TI} {g : TG} {tt : TT} {te : TE} {use : Option (Value → Sem Unit)} {Qf : Value → Shared → Prop}
    (hc : HotC X) (hN : X.N.Nodup) (I : Inv X pins σ H s) (hi : PIH X tg iter wi) (ok : BlkOk X.N X.env.scope scope own)
    (hg : ∀ (p : Addr × Obj) (s : Shared) (H : Hp) (C : Addr) (cl : List (Str × Addr)) (fp : List Addr), PG (blkH X p s H scope (compEnvC scope cl C X.env) fp) tg g)
    (ht : ∀ (p : Addr × Obj) (s : Shared) (H : Hp) (C : Addr) (cl : List (Str × Addr)) (fp : List Addr), PTs (blkH X p s H scope (compEnvC scope cl C X.env) fp) ifs tt)
    (he : ∀ (p : Addr × Obj) (s : Shared) (H : Hp) (C : Addr) (cl : List (Str × Addr)) (fp : List Addr), PE (blkH X p s H scope (compEnvC scope cl C X.env) fp) elt te) (hs : ∀ x, foldedSetIterable iter X.env x = pure x)
    (h : tLc wi g tt te (own.map (·.2)) σ H Q)
    (hRR : ∀ D C s' m H', Inv X pins σ H' s' → Q (.ref D) H' → s'.heap.Ns C m → FpOk X pins H' C → compPost (model X.prog X.w) X.A X.xe use Qf (.ref D) C (.ok .next) s') :
    wpAny (model X.prog X.w) X.A (comprehension (.ListComp elt [⟨tg, iter, ifs, 0⟩] scope pos) scope X.env pos' (newList []) false (eval iter X.env) use) Qf X.xe s := by
  obtain ⟨p, hot, hpX⟩ := hc
  have hfree : ∀ y ∈ scope.names, y.2 = .free → ∃ c, X.env.cells.lookup y.1 = some c := fun y hy e => (ok.free y hy e).elim (fun k => I.ok.has _ (.inl k)) fun k => I.ok.has _ (.inr k)
  refine wpAny_comprehension_free (use := use) rfl hs (closure_ok hfree) ok.kind (fun y hy e => by rw [ok.uniq y hy, e]) (thn (hi.run pins s σ H _ I h) fun xv s1 hx => thn hx fun itv s2 h2 => ?_)
  obtain ⟨it, fp, tn, J, H2, rfl, I2, T, st2, f2, q⟩ := h2
  refine wpAny_newObj_type (newEnv_comp ?_) (by show 0 ≤ sizeLine; decide)
  generalize hD : s2.heap.objs.size = D
  have hDn : H2 D = none := I2.hok.fresh (Nat.le_of_eq hD)
  obtain ⟨W, ⟨m0, w0⟩, turn⟩ := q D hDn
  generalize hs3 : ({ s2 with heap := s2.heap.push { cls := .type "list", data := .seq ([] : List Value).toArray } } : Shared) = s3
  have h3 : s3.heap = s2.heap.push { cls := .type "list", data := .seq ([] : List Value).toArray } := by rw [← hs3]
  have I3 : Inv X pins σ (upd H2 D (.lst [])) s3 := by
    rw [← hs3]
    refine I2.laid (t' := s2.toks) (fun b o e => Heap.get?_push_of_some _ e) (Nat.le_of_eq hD) ⟨Nat.zero_le _, [], 0, .nil, ?_⟩
    rw [← hD]
    exact Heap.get?_push_size _ rfl
  have sz : ∀ b ∈ fp, b < s2.heap.objs.size := fun b hb => let ⟨o, e, _⟩ := T.obj _ _ st2 b hb; Heap.lt_size e
  have f3 : ∀ b ∈ fp, FpOk X pins (upd H2 D (.lst [])) b ∧ b < s3.heap.objs.size := fun b hb => by
    have hlt := sz b hb
    refine ⟨⟨?_, (f2 b hb).2⟩, by rw [h3, Heap.size_push]; exact Nat.lt_succ_of_lt hlt⟩
    rw [upd_ne (by rw [← hD]; exact Nat.ne_of_lt hlt)]
    exact (f2 b hb).1
  have st3 : tn 0 s3.heap := T.keep _ _ _ st2 fun b _ o e => by rw [h3]; exact Heap.get?_push_of_some _ e
  have B4 := block_start I3 ok hN f3
  have P3 := I3.pin p (List.mem_append_left _ hpX)
  have pg := hg p s3 (upd H2 D (.lst [])) s3.heap.objs.size (cellsFrom (s3.heap.objs.size + 1) scope.names (cloFrom X.env.cells scope.names [])) fp
  have pt := ht p s3 (upd H2 D (.lst [])) s3.heap.objs.size (cellsFrom (s3.heap.objs.size + 1) scope.names (cloFrom X.env.cells scope.names [])) fp
  have pe := he p s3 (upd H2 D (.lst [])) s3.heap.objs.size (cellsFrom (s3.heap.objs.size + 1) scope.names (cloFrom X.env.cells scope.names [])) fp
  show codeAny _ _ (.compStart (.ListComp elt [⟨tg, iter, ifs, 0⟩] scope pos) 0 (.ref it) (.ref D) (compEnvC scope (cellsFrom (s3.heap.objs.size + 1) scope.names (cloFrom X.env.cells scope.names [])) s3.heap.objs.size X.env)) (compPost (model X.prog X.w) X.A X.xe use Qf (.ref D) s3.heap.objs.size) { s3 with heap := pushCells (s3.heap.push { cls := .type "dict", data := .dict #[] }) scope.names }
  have nfp : ∀ b ∈ fp, (upd H2 D (.lst [])) b = none := fun b hb => (f3 b hb).1.1
  have pfp : ∀ b ∈ fp, p.1 ≠ b := fun b hb => (f3 b hb).1.2.2.2.2.2 p (List.mem_append_left _ hpX)
  generalize hce : compEnvC scope (cellsFrom (s3.heap.objs.size + 1) scope.names (cloFrom X.env.cells scope.names [])) s3.heap.objs.size X.env = ce at B4 pg pt pe ⊢
  have cL : ce.locals = s3.heap.objs.size := by subst hce; rfl
  generalize hH3 : upd H2 D (.lst []) = H3 at I3 B4 P3 pg pt pe w0 nfp f3
  generalize hs4 : ({ s3 with heap := pushCells (s3.heap.push { cls := .type "dict", data := .dict #[] }) scope.names } : Shared) = s4 at B4 ⊢
  have k4 : ∀ b o, s3.heap.get? b = some o → s4.heap.get? b = some o := fun b o e => by rw [← hs4]; exact pushCells_keeps _ _ _ _ (Heap.get?_push_of_some _ e)
  have st4 : tn 0 s4.heap := T.keep _ _ _ st3 fun b _ o e => k4 b o e
  have I4 : Inv (blkH X p s3 H3 scope ce fp) [] (wipe σ (own.map (·.2))) H3 s4 :=
    (B4.pins_of (pins' := [p]) fun q hq => by
      obtain rfl := List.mem_singleton.mp hq
      refine ⟨k4 _ _ P3.1, P3.2.1, ?_, fun hm => ?_, P3.2.2.2.2⟩
      · show q.1 ≠ ce.locals
        rw [cL]; exact Nat.ne_of_lt (Heap.lt_size P3.1)
      · exact (List.mem_cons.mp (I3.stkSub q.1 hm)).elim P3.2.2.1 P3.2.2.2.1).toTry _
  have hcB : HotC (blkH X p s3 H3 scope ce fp) := ⟨p, hot, List.mem_singleton.mpr rfl⟩
  have stat : ∀ {σ' : L2.St} {H' : Hp} {s' : Shared}, Inv (blkH X p s3 H3 scope ce fp) [] σ' H' s' → (∀ b ∈ fp, H' b = none) → ∀ b ∈ fp, FpOk (blkH X p s3 H3 scope ce fp) [] H' b := fun {σ' H' s'} I' hn b hb =>
    ⟨hn b hb, (I'.ok.exf b hb).1, I'.ok.exfs b hb, .inl hb, fun x c e => (I'.ok.exf b hb).2 x c e, fun q hq => by
      have hq : q ∈ [p] ++ ([] : List (Addr × Obj)) := hq
      rw [List.append_nil] at hq
      rw [List.mem_singleton.mp hq]
      exact pfp b hb⟩
  have loop : codeAny (model X.prog X.w) X.A (.compLoop (.ListComp elt [⟨tg, iter, ifs, 0⟩] scope pos) 0 (.ref it) (.ref D) ce) (compPost (model X.prog X.w) X.A X.xe use Qf (.ref D) s3.heap.objs.size) s4 := by
    refine compLoop_any (fun n s' => ∃ i H', Inv (blkH X p s3 H3 scope ce fp) [] (wipe σ (own.map (·.2))) H' s' ∧ tn i s'.heap ∧ (∀ b ∈ fp, H' b = none) ∧ W i n H') ?_ m0 ⟨0, H3, I4, st4, nfp, w0⟩
    rintro n s5 ⟨i, H5, I5, st5, n5, w5⟩
    rcases turn i n H5 w5 with ⟨stop, qq⟩ | ⟨go, Nx, hNx, step⟩
    · refine thnF (T.done (blkH X p s3 H3 scope ce fp) rfl rfl rfl hcB i [] s5 _ H5 (fun _ _ => False) I5 (stat I5 n5) st5 stop) fun r s6 ⟨hr, I6⟩ => ?_
      subst hr
      have I7 : Inv X pins σ H5 s6 := I3.call' (ch := fp) I6.os I6.base I6.hok I6.bare fun b hb => ⟨(f3 b hb).1.2.2.2.1, (f3 b hb).1.2.1, (f3 b hb).1.2.2.2.2.1, (f3 b hb).1.2.2.2.2.2⟩
      have nC : H5 s3.heap.objs.size = none := by
        have z : H5 ce.locals = none := I6.free
        rw [cL] at z
        exact z
      obtain ⟨m, hn, _⟩ := I6.loc
      have hn : s6.heap.Ns ce.locals m := hn
      rw [cL] at hn
      exact hRR D s3.heap.objs.size s6 m H5 I7 qq hn (I3.fpOk (Nat.le_refl _) nC)
    · refine thnF (T.item (blkH X p s3 H3 scope ce fp) rfl rfl rfl hcB i [] s5 _ H5 (fun _ _ => False) I5 (stat I5 n5) st5 go) fun r s6 ⟨u, hr, h6⟩ => ?_
      subst hr
      refine thnF h6 fun _ s7 ⟨x, H7, I7, r7, y7, st7, n7⟩ => ?_
      refine thnF (pg.run _ s7 _ H7 x u _ (I7.pinned (stat I7 n7) (T.obj _ _ st7)) r7 (step x H7 y7)) fun _ s8 ⟨σ8, H8, I8, hw8, q8⟩ => ?_
      refine thnF (pt.run _ s8 σ8 H8 _ I8 q8) fun b s9 ⟨H9, I9, q9⟩ => ?_
      have fin : ∀ {s' : Shared} {H' : Hp}, Inv (blkH X p s3 H3 scope ce fp) ([] ++ pinsAt fp s7.heap) σ8 H' s' → Nx H' → ∃ m, m < n ∧ ∃ i H', Inv (blkH X p s3 H3 scope ce fp) [] (wipe σ (own.map (·.2))) H' s' ∧ tn i s'.heap ∧ (∀ b ∈ fp, H' b = none) ∧ W i m H' := fun {s' H'} I' nx => by
        obtain ⟨m', hm, w'⟩ := hNx H' nx
        have pin' : ∀ b ∈ fp, ∀ o, s7.heap.get? b = some o → s'.heap.get? b = some o ∧ H' b = none := fun b hb o e =>
          let z := I'.pin (b, o) (List.mem_append_right _ (List.mem_append_right _ (mem_pinsAt hb e)))
          ⟨z.1, z.2.1⟩
        refine ⟨m', hm, i + 1, H', (I'.unpinned (pins := [])).weak (by rw [← hw8, wipe_length]) (fun j v e => ?_), T.keep _ _ _ st7 fun b hb o e => (pin' b hb o e).1, fun b hb => ?_, w'⟩
        · rw [← hw8] at e
          exact (wipe_some e).1
        · obtain ⟨o, e, _⟩ := T.obj _ _ st7 b hb
          exact (pin' b hb o e).2
      cases b with
      | false =>
        simp only [Bool.false_eq_true, if_false] at q9 ⊢
        exact fin I9 q9
      | true =>
        simp only [if_true] at q9 ⊢
        refine thnF (pe.run _ s9 σ8 H9 _ I9 q9) fun z s10 ⟨yv, H10, I10, r10, acc, hD10, hz10, nx⟩ => ?_
        exact app_ok (X := blkH X p s3 H3 scope ce fp) I10 hD10 hz10 r10 fun s11 I11 => fin I11 nx
  exact codeAny_compStart_list loop (T.self X.A 0 _ _ _ st4 loop)
theorem pe_lcH {elt tg iter : Expr} {ifs : List Expr} {scope : Scope} {own : List (Str × Nat)} {pos : Pos} {wi : TI} {g : TG} {tt : TT} {te : TE} (hc : HotC X) (hN : X.N.Nodup) (hi : PIH X tg iter wi) (ok : BlkOk X.N X.env.scope scope own)
    (hg : ∀ (p : Addr × Obj) (s : Shared) (H : Hp) (C : Addr) (cl : List (Str × Addr)) (fp : List Addr), PG (blkH X p s H scope (compEnvC scope cl C X.env) fp) tg g)
    (ht : ∀ (p : Addr × Obj) (s : Shared) (H : Hp) (C : Addr) (cl : List (Str × Addr)) (fp : List Addr), PTs (blkH X p s H scope (compEnvC scope cl C X.env) fp) ifs tt)
    (he : ∀ (p : Addr × Obj) (s : Shared) (H : Hp) (C : Addr) (cl : List (Str × Addr)) (fp : List Addr), PE (blkH X p s H scope (compEnvC scope cl C X.env) fp) elt te) (hs : ∀ x, foldedSetIterable iter X.env x = pure x := by intro _; rfl) :
    PE X (.ListComp elt [⟨tg, iter, ifs, 0⟩] scope pos) (tLc wi g tt te (own.map (·.2))) := by
  refine ⟨fun pins s σ H Q I h => ?_⟩
  rw [eval_ListComp]
  refine lc_hot hc hN I hi ok hg ht he hs h fun D C s' m H' I' q hn f => ⟨m, hn, fun h'' sb => ?_⟩
  obtain ⟨f0, f1, f2, f3, f4, f5⟩ := f
  exact ⟨.ref D, H', I'.turned (t' := s'.toks) (fun b o hb e => (sb.2 b hb).trans e) f0 f1 f3 f4 f5, rfl, q⟩
theorem ps_setLcH {i : Nat} {y : Str} {py : Pos} {elt tg iter : Expr} {ifs : List Expr} {scope : Scope} {own : List (Str × Nat)} {pos spos : Pos} {wi : TI} {g : TG} {tt : TT} {te : TE} (hc : HotC X) (hN : X.N.Nodup) (hy : X.N[i]? = some y) (hyl : X.env.scope.names.lookup y = some .local)
    (hsw : swapsWith (.ListComp elt [⟨tg, iter, ifs, 0⟩] scope pos) (some (.Name y py)) spos.line X.env = pure true) (hi : PIH X tg iter wi) (ok : BlkOk X.N X.env.scope scope own)
    (hg : ∀ (p : Addr × Obj) (s : Shared) (H : Hp) (C : Addr) (cl : List (Str × Addr)) (fp : List Addr), PG (blkH X p s H scope (compEnvC scope cl C X.env) fp) tg g)
    (ht : ∀ (p : Addr × Obj) (s : Shared) (H : Hp) (C : Addr) (cl : List (Str × Addr)) (fp : List Addr), PTs (blkH X p s H scope (compEnvC scope cl C X.env) fp) ifs tt)
    (he : ∀ (p : Addr × Obj) (s : Shared) (H : Hp) (C : Addr) (cl : List (Str × Addr)) (fp : List Addr), PE (blkH X p s H scope (compEnvC scope cl C X.env) fp) elt te) (hs : ∀ x, foldedSetIterable iter X.env x = pure x := by intro _; rfl) :
    PS X (.Assign [.Name y py] (.ListComp elt [⟨tg, iter, ifs, 0⟩] scope pos) spos) (tAsg (tLc wi g tt te (own.map (·.2))) (gName i)) := by
  refine ⟨fun pins s σ H D I h => ?_⟩
  rw [exec_Assign_Name_used _ _ _ _ hsw]
  refine wpAny_bind (wpAny_standAt (wpAny_bind ?_))
  show wpAny _ X.A (do let _ ← comprehension (.ListComp elt [⟨tg, iter, ifs, 0⟩] scope pos) scope X.env (firstIterPos [⟨tg, iter, ifs, 0⟩] pos) (newList []) false (eval iter X.env) (some (assign (.Name y py) X.env))) _ _ s
  have h : tLc wi g tt te (own.map (·.2)) σ H (fun x H1 => gName i x σ H1 D.nx) := h
  refine wpAny_bind (thn (lc_hot (Qf := fun _ s' => SP X pins D .next s') hc hN I hi ok hg ht he hs h fun L C s' m H' I' q hn f => ?_) fun _ s' hq => wpAny_pure (wpAny_pure hq))
  show wpAny _ _ (assign (.Name y py) X.env (.ref L)) _ _ _
  refine wpAny_assign_Name (store_ok2 (v := V.ref L) I' hN hy (.inl hyl) rfl (fun s2 I2 ⟨a, sb, ha⟩ => ?_) (.inr hyl))
  obtain ⟨f0, f1, f2, f3, f4, f5⟩ := f
  have haC : C ≠ a := by
    rcases ha with z | z
    · rw [z]; exact f1
    · exact fun e => f4 y a z e.symm
  refine ⟨m, hn.sameBut sb haC, fun h3 sb3 => ?_⟩
  exact ⟨_, H', I2.turned (t' := s2.toks) (fun b o hb e => (sb3.2 b hb).trans e) f0 f1 f3 f4 f5, q⟩
end
/-! ### calls where an exception is handled -/
structure CalH (P : Program) (w : World) (K : PySem.W.Frag) (mg : Str → Option Value) (base : Heap) (k : Nat) (x : Str) (ps : List Str) (sp : Sp) : Prop where
  ex : ∃ f fd, FnH P w K mg base CX0 k f fd ps sp ∧ mg x = some (.ref f) ∧ Binds K fd ps [] ∧ PySem.W.keepIn K (.ref f) = true
section
variable {P : Program} {w : World} {K : PySem.W.Frag} {mg : Str → Option Value} {base : Heap}
theorem Std.calH {x : Str} {st : Stmt} {N ps : List Str} {k : Nat} {sp : Sp} (S : Std K mg x st ps) (sc : FnScope N ps (defScope st)) (len : ∀ vs H Q E, sp vs H Q E → vs.length = ps.length)
    (body : ∀ (f : Addr) (cdv : Value) (A : Around) (outer : List Env) (s : Shared) (H : Hp) (vs : List V) (Q : VK) (E : XK) (p : Addr × Obj), Hot1 A p → RoomH k (A.deeper (envOfC x (defScope st) s.heap.objs.size f cdv)) → sp vs H Q E →
      ∃ t, PSs (cxH CX0 P w K mg base N x (defScope st) f cdv A outer s H E p) (defBody st) t ∧ t { nx := fun _ H' => Q .non H', rt := Q } (start N vs) H) : CalH P w K mg base (k + 1) x ps sp := by
  obtain ⟨f, fd, F, m, b⟩ := S.ex
  have kp := F.kp
  obtain ⟨oc, od, kV, doc, pm, an, cdv, ct, osl, rfl, lk, hcd⟩ := F.ex
  exact ⟨f, _, fn_ofH lk hcd sc len fun A outer s H vs Q E p hot hr hsp => body f cdv A outer s H vs Q E p hot hr hsp, m, b, kp⟩
end
theorem pe_calH {X : Cx} {j k : Nat} {x : Str} {ps : List Str} {sp : Sp} {e : Expr} {es : List Expr} {t : TA} {p pos : Pos} (C : CalH X.prog X.w X.K X.mg X.base j x ps sp) (hr : RoomH k X.A) (hj : j ≤ k) (hc : HotC X) (hg : Gl X x)
    (ha : PA X (e :: es) t) (hdb : (x == ("__debug__" : Str)) = false := by decide) (he : starEach (e :: es) X.env = (false, eval e X.env) :: starEach es X.env := by rfl) (hpl : (backTo pos (starEach es X.env)).any (·.1) = false := by rfl) :
    PE X (.Call (.Name x p) (e :: es) [] pos) (tCall sp [] E0 t) := by
  obtain ⟨f, fd, F, m, b, kp⟩ := C.ex
  have q := pe_callH (q := p) (E := fun _ => E0) F (hr.mono hj) hc hg m kp b (fun σ _ _ _ _ _ _ h => h.elim) ha hdb he hpl
  refine ⟨fun pins s σ H Q I h => q.run pins s σ H Q I ?_⟩
  have e : (fun vs H1 => sp (vs ++ []) H1 Q E0) = fun vs H1 => sp vs H1 Q E0 := by funext vs H1; rw [List.append_nil]
  have h : t σ H (fun vs H1 => sp (vs ++ []) H1 Q E0) := h
  rw [e] at h
  exact h
end K45
set_option Elab.async false
set_option linter.all false
set_option maxRecDepth 100000
set_option maxHeartbeats 200000
namespace K45
open PySem PySem.Spec PyProof.Rows L2
open HotX L2H
theorem dh__law_ints {P : Program} {w : World} {K : PySem.W.Frag} {mg : Str → Option Value} {base : Heap} (B : Bif mg)  {f : Addr} {cdv : Value} {A : Around} {outer : List Env} {s : Shared} {H : Hp} {E : XK} {p : Addr × Obj} (hot : Hot1 A p) (hr : RoomH 0 (A.deeper (envOfC "_law_ints" (defScope s__law_ints) s.heap.objs.size f cdv))) :
    PSs (cxH CX0 P w K mg base ["_law_thing", "_law_b", "_law_wrong", "_law_k"] "_law_ints" (defScope s__law_ints) f cdv A outer s H E p) (defBody s__law_ints) (t__law_ints K ) := by
  have hc : HotC (cxH CX0 P w K mg base N__law_ints "_law_ints" (defScope s__law_ints) f cdv A outer s H E p) := ⟨p, hot, List.mem_cons_self⟩
  have nd := sc__law_ints.nd
  exact (pss_cons (ps_if (PW.pt (pw_or (pt_not (pt_val (pe_callB k_isi (by rfl) B.isinstance_ (by decide +kernel) (pa_cons (pv 0) (pa_cons (pe_bltn (v := .ty "tuple") (by rfl) B.tuple_ (by decide +kernel) rfl) pa_nil))))) (pw_or1 (pt_cmpR op_ne (pe_callB k_len (by rfl) B.len_ (by decide +kernel) (pa_cons (pv 0) pa_nil)) (pv 1) (nomark _))))) (pss_one (ps_ret pe_bl)) pss_nil)
      (pss_cons (ps_setLcH (i := 2) (own := [("_law_k", 3)]) hc nd rfl rfl (sw_true rfl rfl rfl (by decide +kernel)) (pi_tupH (pv 0)) (blkOk_by (own := [("_law_k", 3)]) (by kernel_rfl)) (fun _ _ _ _ _ _ => (pg_name (i := 3) nd rfl (Or.inl rfl))) (fun _ _ _ _ _ _ => (pts_one (PW.pt (pw_or (pt_not (pt_val (pe_callB k_isi (by rfl) B.isinstance_ (by decide +kernel) (pa_cons (pv 3) (pa_cons (pe_bltn (v := .ty "int") (by rfl) B.int_ (by decide +kernel) rfl) pa_nil))))) (pw_or (pt_val (pe_callB k_isi (by rfl) B.isinstance_ (by decide +kernel) (pa_cons (pv 3) (pa_cons (pe_bltn (v := .ty "bool") (by rfl) B.bool_ (by decide +kernel) rfl) pa_nil)))) (pw_or1 (pt_cmpR k_lt (pv 3) pe_int (nomark _)))))))) (fun _ _ _ _ _ _ => (pv 3)))
      (pss_one (ps_ret (pe_cmpR op_eq (pe_callB k_len (by rfl) B.len_ (by decide +kernel) (pa_cons (pv 2) pa_nil)) pe_int (nomark _))))))
theorem calH__law_ints {P : Program} {w : World} {K : PySem.W.Frag} {mg : Str → Option Value} {base : Heap} (T : Txt K mg) : CalH P w K mg base 1 "_law_ints" ["_law_thing", "_law_b"] (spInts K) :=
  T._law_ints.calH sc__law_ints (fun vs H Q E h => len__law_ints h) (fun f cdv A outer s H vs Q E p hot hr h => ⟨_, dh__law_ints T.B hot hr, rd__law_ints h⟩)
theorem dh__law_ring {P : Program} {w : World} {K : PySem.W.Frag} {mg : Str → Option Value} {base : Heap} (B : Bif mg) {sp__law_ints : Sp} (c__law_ints : CalH P w K mg base 1 "_law_ints" ["_law_thing", "_law_b"] sp__law_ints) {f : Addr} {cdv : Value} {A : Around} {outer : List Env} {s : Shared} {H : Hp} {E : XK} {p : Addr × Obj} (hot : Hot1 A p) (hr : RoomH 1 (A.deeper (envOfC "_law_ring" (defScope s__law_ring) s.heap.objs.size f cdv))) :
    PSs (cxH CX0 P w K mg base ["_law_g", "_law_i", "_law_steps", "_law_k"] "_law_ring" (defScope s__law_ring) f cdv A outer s H E p) (defBody s__law_ring) (t__law_ring K sp__law_ints) := by
  have hc : HotC (cxH CX0 P w K mg base N__law_ring "_law_ring" (defScope s__law_ring) f cdv A outer s H E p) := ⟨p, hot, List.mem_cons_self⟩
  have nd := sc__law_ring.nd
  exact (pss_cons (ps_if (PW.pt (pw_or (pt_not (pt_val (pe_callB k_isi (by rfl) B.isinstance_ (by decide +kernel) (pa_cons (pv 1) (pa_cons (pe_bltn (v := .ty "tuple") (by rfl) B.tuple_ (by decide +kernel) rfl) pa_nil))))) (pw_or (pt_cmpR k_lt (pe_callB k_len (by rfl) B.len_ (by decide +kernel) (pa_cons (pv 1) pa_nil)) pe_int (nomark _)) (pw_or1 (pt_not (pt_val (pe_calH c__law_ints hr (by decide) hc (by rfl) (pa_cons (pv 1) (pa_cons (pe_callB k_len (by rfl) B.len_ (by decide +kernel) (pa_cons (pv 1) pa_nil)) pa_nil))))))))) (pss_one (ps_ret pe_non)) pss_nil)
      (pss_cons (ps_if (PW.pt (pw_or (pt_cmpR k_ge (pe_callB (k_maxH hc) (by rfl) B.max_ (by decide +kernel) (pa_cons (pv 1) pa_nil)) (pe_callB k_len (by rfl) B.len_ (by decide +kernel) (pa_cons (pv 0) pa_nil)) (nomark _)) (pw_or1 (pt_cmpR op_ne (pe_lenSetTH (by rfl) B.len_ (by rfl) B.set_ hc (pv 1)) (pe_callB k_len (by rfl) B.len_ (by decide +kernel) (pa_cons (pv 1) pa_nil)) (nomark _))))) (pss_one (ps_ret pe_non)) pss_nil)
      (pss_cons (ps_setLcH (i := 2) (own := [("_law_k", 3)]) hc nd rfl rfl (sw_true rfl rfl rfl (by decide +kernel)) (pi_range1H (by rfl) B.range_ (pa_cons (pe_callB k_len (by rfl) B.len_ (by decide +kernel) (pa_cons (pv 1) pa_nil)) pa_nil)) (blkOk_by (own := [("_law_k", 3)]) (by kernel_rfl)) (fun _ _ _ _ _ _ => (pg_name (i := 3) nd rfl (Or.inl rfl))) (fun _ _ _ _ _ _ => pts_nil) (fun _ _ _ _ _ _ => (pe_ix ix_seq (pe_ix ix_seq (pv 0) (pe_ix ix_seq (pv 1) (pv 3) (fun _ _ => rfl)) (fun _ _ => rfl)) (pe_ix ix_seq (pv 1) (pe_op k_mod (pe_op k_add (pv 3) pe_int) (pe_callB k_len (by rfl) B.len_ (by decide +kernel) (pa_cons (pv 1) pa_nil))) (fun _ _ => rfl)) (fun _ _ => rfl))))
      (pss_cons (ps_if (pt_cmpR op_in_seq pe_non (pv 2) (by rfl)) (pss_one (ps_ret pe_non)) pss_nil)
      (pss_one (ps_ret (pe_callB (k_sumH hc) (by rfl) B.sum_ (by decide +kernel) (pa_cons (pv 2) pa_nil))))))))
theorem calH__law_ring {P : Program} {w : World} {K : PySem.W.Frag} {mg : Str → Option Value} {base : Heap} (T : Txt K mg) : CalH P w K mg base 2 "_law_ring" ["_law_g", "_law_i"] (spRing K) :=
  T._law_ring.calH sc__law_ring (fun vs H Q E h => len__law_ring h) (fun f cdv A outer s H vs Q E p hot hr h => ⟨_, dh__law_ring T.B (calH__law_ints T) hot hr, rd__law_ring h⟩)
theorem dh__law_bars {P : Program} {w : World} {K : PySem.W.Frag} {mg : Str → Option Value} {base : Heap} (B : Bif mg) {sp__law_ring : Sp} (c__law_ring : CalH P w K mg base 2 "_law_ring" ["_law_g", "_law_i"] sp__law_ring) {f : Addr} {cdv : Value} {A : Around} {outer : List Env} {s : Shared} {H : Hp} {E : XK} {p : Addr × Obj} (hot : Hot1 A p) (hr : RoomH 2 (A.deeper (envOfC "_law_bars" (defScope s__law_bars) s.heap.objs.size f cdv))) :
    PSs (cxH CX0 P w K mg base ["_law_g", "_law_t", "_law_i", "_law_x", "_law_y", "_law_v", "_law_one"] "_law_bars" (defScope s__law_bars) f cdv A outer s H E p) (defBody s__law_bars) (t__law_bars K sp__law_ring) := by
  have hc : HotC (cxH CX0 P w K mg base N__law_bars "_law_bars" (defScope s__law_bars) f cdv A outer s H E p) := ⟨p, hot, List.mem_cons_self⟩
  have nd := sc__law_bars.nd
  exact (pss_cons (ps_set (i := 5) nd rfl (Or.inl rfl) (pe_calH c__law_ring hr (by decide) hc (by rfl) (pa_cons (pv 0) (pa_cons (pv 2) pa_nil))))
      (pss_cons (ps_if (PW.pt (pw_or (pt_cmpR k_isN (pv 5) pe_non (nomark _)) (pw_or (pt_cmpR k_le (pv 5) (pe_callB (k_sumH hc) (by rfl) B.sum_ (by decide +kernel) (pa_cons (pe_lcH (own := [("_law_one", 6)]) hc nd (pi_tupH (pv 2)) (blkOk_by (own := [("_law_one", 6)]) (by kernel_rfl)) (fun _ _ _ _ _ _ => (pg_name (i := 6) nd rfl (Or.inl rfl))) (fun _ _ _ _ _ _ => pts_nil) (fun _ _ _ _ _ _ => (pe_ix ix_seq (pv 1) (pv 6) (fun _ _ => rfl)))) pa_nil)) (nomark _)) (pw_or1 (pt_cmpR op_notIn_seq (pv 3) (pv 2) (by rfl)))))) (pss_one (ps_ret pe_bl)) pss_nil)
      (pss_one (ps_ret (pe_cmpR op_eq (pe_ix ix_seq (pv 2) (pe_op k_mod (pe_op k_add (pe_tix PySem.F.plainAttrs_tuple PySem.F.slot_tuple_index PySem.F.type_tuple_index mt_tindex (pv 2) (pa_cons (pv 3) pa_nil)) pe_int) (pe_callB k_len (by rfl) B.len_ (by decide +kernel) (pa_cons (pv 2) pa_nil))) (fun _ _ => rfl)) (pv 4) (nomark _))))))
theorem calH__law_bars {P : Program} {w : World} {K : PySem.W.Frag} {mg : Str → Option Value} {base : Heap} (T : Txt K mg) : CalH P w K mg base 3 "_law_bars" ["_law_g", "_law_t", "_law_i", "_law_x", "_law_y"] (spBars K) :=
  T._law_bars.calH sc__law_bars (fun vs H Q E h => len__law_bars h) (fun f cdv A outer s H vs Q E p hot hr h => ⟨_, dh__law_bars T.B (calH__law_ring T) hot hr, rd__law_bars h⟩)
end K45
set_option Elab.async false
set_option linter.all false
set_option maxRecDepth 100000
set_option maxHeartbeats 200000
namespace K45
open PySem PySem.Spec PyProof.Rows L2
section
variable {P : Program} {w : World} {K : PySem.W.Frag} {mg : Str → Option Value} {base : Heap}
/-- for v in a tuple just made -/
theorem q_forTN {σ : L2.St} {H : Hp} {tr : TA} {vs : List V} {j : Nat} {tu tz : TS} {D : Ends} (h : Vs tr σ H vs) (hl : vs.length ≤ 100000)
    (hs : ∀ H1, Same H H1 → ∃ Pv : Nat → L2.St → Hp → Prop, Pv 0 σ H1 ∧ (∀ i σ' H', Pv i σ' H' → Same H1 H') ∧ (∀ i v σ' H', vs[i]? = some v → Pv i σ' H' → tu { D with nx := Pv (i + 1), ct := Pv (i + 1), bk := tz D } (σ'.set j (some v)) H') ∧ ∀ σ' H', Pv vs.length σ' H' → tz D σ' H') :
    tSeq (tFor (iTup K (tTup tr)) (gName j) tu) tz D σ H :=
  h _ ⟨small_line hl, fun p hp => by
    obtain ⟨Pv, h0, h1, h2, h3⟩ := hs _ (same_new hp)
    exact ⟨p, rfl, ⟨_, SqT.of upd_same⟩, for_tup (xs := vs) Pv h0 (fun i σ' H' _ q => (h1 i σ' H' q).t (SqT.of upd_same)) (fun i x σ' H' hx q => h2 i x σ' H' hx q) h3⟩⟩
theorem nat_mem3 {x y z : Nat} {i : Nat} {v : V} (h : [V.int (x : Int), .int (y : Int), .int (z : Int)][i]? = some v) : ∃ d : Nat, v = .int (d : Int) ∧ (d = x ∨ d = y ∨ d = z) := by
  have := List.mem_of_getElem? h
  simp only [List.mem_cons, List.not_mem_nil, or_false] at this
  rcases this with e | e | e
  · exact ⟨x, e, .inl rfl⟩
  · exact ⟨y, e, .inr (.inl rfl)⟩
  · exact ⟨z, e, .inr (.inr rfl)⟩
theorem nat_mem2 {x y : Nat} {i : Nat} {v : V} (h : [V.int (x : Int), .int (y : Int)][i]? = some v) : ∃ d : Nat, v = .int (d : Int) ∧ (d = x ∨ d = y) := by
  have := List.mem_of_getElem? h
  simp only [List.mem_cons, List.not_mem_nil, or_false] at this
  rcases this with e | e
  · exact ⟨x, e, .inl rfl⟩
  · exact ⟨y, e, .inr rfl⟩
/-- the suite: return _law_bars(_law_over_here, _law_t, e.ring, _law_x, _law_y) -/
def tSuiteO (K : PySem.W.Frag) (C : Addr) : Addr → Value → Option Addr → TS := fun a cls d => tRet (tCall (spBars K) [] E0 (tCons (tVar 7) (tCons (tVar 1) (tCons (tXf a cls d C "ring" (tVar 11)) (tCons (tVar 2) (tCons (tVar 3) tNil))))))
def tBodyO (K : PySem.W.Frag) (C : Addr) : WX → TS := fun W => tDrop (tCallS (spRoomX K C) (WE W) (tCons (tVar 7) (tCons (tVar 1) (tCons (tVar 3) (tCons (tVar 2) tNil)))))
def tTryO (K : PySem.W.Frag) (C : Addr) : TS := fun D σ H => tBodyO K C (wAs K (.ref C) 11 (tSuiteO K C) (fun _ _ _ _ => False) D) D σ H
structure OverA (n : Nat) (g : Gr) (t : Nat → Int) (x y : Nat) (s : Int) (h : Nat) : Prop where
  hx : x < n
  hy : y < n
  ne : y ≠ x
  bs : bestS n (gn g t) x y = some s
  wk : Wk n (gn g t) y x s h
  mn : ∀ h', Wk n (gn g t) y x s h' → h ≤ h'
/-- the least walk goes through each door at most once -/
theorem OverA.lt {n : Nat} {g : Gr} {t : Nat → Int} {x y : Nat} {s : Int} {h : Nat} (A : OverA n g t x y s h) (hk : Kept n g t) : h + 1 ≤ n := by
  obtain ⟨F, τ, b⟩ := kept_best hk A.hx
  obtain ⟨k, hkn, ch⟩ := best_chain b A.hx A.hy A.bs
  have := A.mn k (ch.walk.mono fun u v e _ _ he => (off_some he).2)
  omega
theorem OverA.pos {n : Nat} {g : Gr} {t : Nat → Int} {x y : Nat} {s : Int} {h : Nat} (A : OverA n g t x y s h) : 1 ≤ h := by
  cases h with
  | zero =>
    have := A.wk
    cases this with
    | nil _ => exact absurd rfl A.ne
  | succ h => exact Nat.succ_le_succ (Nat.zero_le h)
def spOver (K : PySem.W.Frag) : Sp := fun vs H Q _ => ∃ (n : Nat) (a b : Addr) (g : Gr) (t : Nat → Int) (x y z : Nat) (s : Int) (h : Nat), vs = [.ref a, .ref b, .int (x : Int), .int (y : Int), .int (z : Int), .int (t x - s), .int (h : Int)] ∧ TKT K H n a b g t ∧ OverA n g t x y s h ∧ z < n ∧ Ret (fun v _ => v = .bl true) H Q
/-- a ring that bars with the step more, as _law_bars asks it -/
theorem bars_over {n : Nat} {ov b rA : Addr} {g : Gr} {t : Nat → Int} {x y : Nat} {s : Int} {h p : Nat} {c : Nat → Nat} {H : Hp} {Q : VK} {E : XK} (A : OverA n g t x y s h) (hk : Kept n g t) (hn : n ≤ 1000) (h1 : TR K H ov n n (oI (over g t x y s))) (h2 : SqT K H b (tabI n t))
    (hP : PT H rA (tab p fun i => .int (c i : Nat))) (hr : IsRing n (gn (over g t x y s) t) p c) (hs : 0 < rsum (gn (over g t x y s) t) p c) (q : Ret (fun v _ => v = .bl true) H Q) : spBars K [.ref ov, .ref b, .ref rA, .int (x : Int), .int (y : Int)] H Q E := by
  rcases over_ring hk A.hx A.hy A.bs hr with z | ⟨_, i, hi, e1, e2, _⟩
  · omega
  · exact ⟨n, ov, b, rA, over g t x y s, t, p, c, i, by rw [e1, e2], h1, h2, hn, hP, hr, hs, hi, q⟩
theorem al_keptAt {σ : L2.St} {H : Hp} {n : Nat} {a b : Addr} {g : Gr} {t : Nat → Int} {k : Int} {ta tb tc : TE} (hT : TW K H n a b g t) (h0 : NN n t) (k1 : 1 ≤ k) (k2 : k ≤ 1000) (ha : Va ta σ H (.ref a)) (hc : Va tc σ H (.int k)) (hb : Va tb σ H (.ref b)) :
    Al (tCall (spKeptAt K) [] E0 (tCons ta (tCons tc (tCons tb tNil)))) σ H (IsB (KeptAt n g t k)) := al_call (vs_cons ha (vs_cons hc (vs_cons hb vs_nil))) fun Q E q => ⟨n, a, b, g, t, k, rfl, hT, h0, k1, k2, q⟩
theorem al_leastB {σ : L2.St} {H : Hp} {n : Nat} {a b : Addr} {g : Gr} {t : Nat → Int} {ta tb : TE} (hT : TW K H n a b g t) (h0 : NN n t) (ha : Va ta σ H (.ref a)) (hb : Va tb σ H (.ref b)) : Al (tCall (spLeastBarred K) [] E0 (tCons ta (tCons tb tNil))) σ H (LeastB n g t) :=
  al_call (vs_cons ha (vs_cons hb vs_nil)) fun Q E q => ⟨n, a, b, g, t, rfl, hT, h0, q⟩
theorem al_barring {σ : L2.St} {H : Hp} {n : Nat} {a b : Addr} {g : Gr} {t : Nat → Int} {ta tb : TE} (hT : TW K H n a b g t) (h0 : NN n t) (ha : Va ta σ H (.ref a)) (hb : Va tb σ H (.ref b)) : Al (tCall (spBarring K) [] E0 (tCons ta (tCons tb tNil))) σ H (RingOr K n (gn g t)) :=
  al_call (vs_cons ha (vs_cons hb vs_nil)) fun Q E q => ⟨n, a, b, g, t, rfl, hT, h0, q⟩
theorem va_xf {σ : L2.St} {H : Hp} {te : TE} {e C d rA : Addr} (hv : Va te σ H (.ref e)) (hd : H d = some (.xd [("ring", .ref rA)])) : Va (tXf e (.ref C) (some d) C "ring" te) σ H (.ref rA) := fun Q q => hv _ ⟨rfl, rfl, d, _, .ref rA, rfl, hd, rfl, q⟩
theorem al_barsO {σ : L2.St} {H : Hp} {n : Nat} {ov b : Addr} {g : Gr} {t : Nat → Int} {x y : Nat} {s : Int} {h : Nat} {ta tb tr tx ty : TE} (A : OverA n g t x y s h) (hk : Kept n g t) (hn : n ≤ 1000) (h1 : TR K H ov n n (oI (over g t x y s))) (h2 : SqT K H b (tabI n t))
    (ha : Va ta σ H (.ref ov)) (hb : Va tb σ H (.ref b)) (hr : Al tr σ H (RingOr K n (gn (over g t x y s) t))) (hx : ∀ H1, Same H H1 → Va tx σ H1 (.int (x : Int))) (hy : ∀ H1, Same H H1 → Va ty σ H1 (.int (y : Int))) :
    Al (tCall (spBars K) [] E0 (tCons ta (tCons tb (tCons tr (tCons tx (tCons ty tNil)))))) σ H (fun v _ => v = .bl true) := fun Q q => ha _ (hb _ (hr _ fun v H1 S1 hR => by
  rcases hR with ⟨_, hf⟩ | ⟨rA, p, c, ev, hP, hr, hs⟩
  · exact absurd hf (over_not hk A.hx A.hy A.ne A.bs)
  · subst ev
    exact hx H1 S1 _ (hy H1 S1 _ (bars_over (E := E0) A hk hn (S1.tt h1) (S1.t h2) hP hr hs fun v H3 S3 e => q v H3 (S1.trans S3) e))))
theorem q_tryO {σ : L2.St} {H : Hp} {D : Ends} {tz : TS} {C : Addr} {vs : List V} (h : Vs (tCons (tVar 7) (tCons (tVar 1) (tCons (tVar 3) (tCons (tVar 2) tNil)))) σ H vs)
    (k : ∀ Q : VK, spRoomX K C vs H Q (WE (wAs K (.ref C) 11 (tSuiteO K C) (fun _ _ _ _ => False) { D with nx := tz D }) σ)) : tSeq (tTryO K C) tz D σ H := by
  unfold tSeq tTryO tBodyO tDrop tCallS
  exact h _ (k _)
end
abbrev N__law_over : List Str := ["_law_g", "_law_t", "_law_x", "_law_y", "_law_z", "_law_room", "_law_steps", "_law_over_here", "_law_door", "_law_due", "_law_more", "e", "_law_k"]
abbrev P__law_over : List Str := ["_law_g", "_law_t", "_law_x", "_law_y", "_law_z", "_law_room", "_law_steps"]
abbrev s__law_over : Stmt := topS 72
theorem sc__law_over : FnScope ["_law_g", "_law_t", "_law_x", "_law_y", "_law_z", "_law_room", "_law_steps", "_law_over_here", "_law_door", "_law_due", "_law_more", "e", "_law_k"] ["_law_g", "_law_t", "_law_x", "_law_y", "_law_z", "_law_room", "_law_steps"] (defScope s__law_over) := ⟨rfl, rfl, rfl, by decide +kernel, rfl, by decide +kernel, by decide +kernel⟩
def t__law_over (K : PySem.W.Frag) (C : Addr) (sp__law_put sp__law_bars sp_barring_doors sp__law_same sp_is_kept sp_least_barred sp_is_kept_at sp__law_rest sp_least_wait : Sp) : TS := (tSeq (tAsg (tCall sp__law_put [] E0 (tCons (tVar 0) (tCons (tVar 2) (tCons (tVar 3) (tCons (tOp rAdd (tVar 5) (tC (.int 1))) tNil))))) (gName 7))
    (tSeq (tIfS (tNot (tB (tCall sp__law_bars [] E0 (tCons (tVar 7) (tCons (tVar 1) (tCons (tCall sp_barring_doors [] E0 (tCons (tVar 7) (tCons (tVar 1) tNil))) (tCons (tVar 2) (tCons (tVar 3) tNil)))))))) (tRet (tC (.bl false))) tNext)
    (tSeq (tIfS (tNot (tB (tCall sp__law_same [] E0 (tCons (tCall sp_is_kept [] E0 (tCons (tVar 7) (tCons (tVar 1) tNil))) (tCons (tC (.bl false)) tNil))))) (tRet (tC (.bl false))) tNext)
    (tSeq (tIfS (tNot (tB (tCall sp__law_same [] E0 (tCons (tCall sp_least_barred [] E0 (tCons (tVar 7) (tCons (tVar 1) tNil))) (tCons (tOp rAdd (tVar 6) (tC (.int 1))) tNil))))) (tRet (tC (.bl false))) tNext)
    (tSeq (tIfS (tNot (tB (tCall sp__law_same [] E0 (tCons (tCall sp_is_kept_at [] E0 (tCons (tVar 7) (tCons (tVar 6) (tCons (tVar 1) tNil)))) (tCons (tC (.bl true)) tNil))))) (tRet (tC (.bl false))) tNext)
    (tSeq (tIfS (tNot (tB (tCall sp__law_same [] E0 (tCons (tCall sp_is_kept_at [] E0 (tCons (tVar 7) (tCons (tOp rAdd (tVar 6) (tC (.int 1))) (tCons (tVar 1) tNil)))) (tCons (tC (.bl false)) tNil))))) (tRet (tC (.bl false))) tNext)
    (tSeq (tFor (iTup K (tTup (tCons (tVar 2) (tCons (tVar 3) (tCons (tVar 4) tNil))))) (gName 8) (tSeq (tAsg (tCall sp__law_rest [] E0 (tCons (tVar 0) (tCons (tVar 1) (tCons (tVar 2) (tCons (tVar 3) (tCons (tVar 8) (tCons (tVar 5) tNil))))))) (gName 9))
    (tIfS (tNot (tB (tCall sp__law_same [] E0 (tCons (tCall sp_least_wait [] E0 (tCons (tVar 7) (tCons (tVar 1) (tCons (tVar 8) tNil)))) (tCons (tVar 9) tNil))))) (tRet (tC (.bl false))) tNext)))
    (tSeq (tFor (iTup K (tTup (tCons (tVar 2) (tCons (tVar 3) tNil)))) (gName 8) (tSeq (tAsg (tCB (cTup K) (tCons (tLc (iRng1 (tCons (tCB (cLen K) (tCons (tVar 0) tNil)) tNil)) (gName 12) tYes (tOp rAdd (tOp (rIx K) (tVar 1) (tVar 12)) (tCB cInt (tCons (tOp rEq (tVar 12) (tVar 8)) tNil))) [12]) tNil)) (gName 10))
    (tIfS (tNot (tB (tCall sp__law_same [] E0 (tCons (tCall sp_is_kept [] E0 (tCons (tVar 7) (tCons (tVar 10) tNil))) (tCons (tC (.bl true)) tNil))))) (tRet (tC (.bl false))) tNext)))
    (tSeq (tTryO K C)
    (tRet (tC (.bl false))))))))))))
theorem d__law_over {P : Program} {w : World} {K : PySem.W.Frag} {mg : Str → Option Value} {base : Heap} (T : Txt K mg) {C fI : Addr} (X : ExnT K mg C fI) {sp__law_put sp__law_bars sp_barring_doors sp__law_same sp_is_kept sp_least_barred sp_is_kept_at sp__law_rest sp_least_wait : Sp} (c__law_put : Cal P w K mg base 1 "_law_put" ["_law_g", "_law_x", "_law_y", "_law_entry"] sp__law_put) (c__law_bars : Cal P w K mg base 3 "_law_bars" ["_law_g", "_law_t", "_law_i", "_law_x", "_law_y"] sp__law_bars) (c_barring_doors : Cal P w K mg base 4 "barring_doors" ["table", "waits"] sp_barring_doors) (c__law_same : Cal P w K mg base 4 "_law_same" ["_law_thing", "_law_due"] sp__law_same) (c_is_kept : Cal P w K mg base 5 "is_kept" ["table", "waits"] sp_is_kept) (c_least_barred : Cal P w K mg base 4 "least_barred" ["table", "waits"] sp_least_barred) (c_is_kept_at : Cal P w K mg base 4 "is_kept_at" ["table", "grain", "waits"] sp_is_kept_at) (c__law_rest : Cal P w K mg base 2 "_law_rest" ["_law_g", "_law_t", "_law_x", "_law_y", "_law_z", "_law_room"] sp__law_rest) (c_least_wait : Cal P w K mg base 5 "least_wait" ["table", "waits", "door"] sp_least_wait) {f : Addr} {cdv : Value} {A : Around} {outer : List Env} {s : Shared} {H : Hp} {E : XK} (hr : Room 6 (A.deeper (envOfC "_law_over" (defScope s__law_over) s.heap.objs.size f cdv))) :
    PSs (cxOf CX0 P w K mg base ["_law_g", "_law_t", "_law_x", "_law_y", "_law_z", "_law_room", "_law_steps", "_law_over_here", "_law_door", "_law_due", "_law_more", "e", "_law_k"] "_law_over" (defScope s__law_over) f cdv A outer s H E).nox (defBody s__law_over) (t__law_over K C sp__law_put sp__law_bars sp_barring_doors sp__law_same sp_is_kept sp_least_barred sp_is_kept_at sp__law_rest sp_least_wait) := by
  obtain ⟨fR, fdR, FR, gR, bR⟩ := T.room_of.ex
  obtain ⟨fG, fdG, FG, gG, bG⟩ := T.gains_if_kept.ex
  have hrH : L2H.RoomH 6 (A.deeper (envOfC "_law_over" (defScope s__law_over) s.heap.objs.size f cdv)) := L2H.roomH_of hr
  have nd := sc__law_over.nd
  exact (pss_cons (ps_set (i := 7) nd rfl (Or.inl rfl) (pe_cal c__law_put hr (by decide) (by rfl) (pa_cons (pv 0) (pa_cons (pv 2) (pa_cons (pv 3) (pa_cons (pe_op k_add (pv 5) pe_int) pa_nil))))))
      (pss_cons (ps_if (pt_not (pt_val (pe_cal c__law_bars hr (by decide) (by rfl) (pa_cons (pv 7) (pa_cons (pv 1) (pa_cons (pe_cal c_barring_doors hr (by decide) (by rfl) (pa_cons (pv 7) (pa_cons (pv 1) pa_nil))) (pa_cons (pv 2) (pa_cons (pv 3) pa_nil)))))))) (pss_one (ps_ret pe_bl)) pss_nil)
      (pss_cons (ps_if (pt_not (pt_val (pe_cal c__law_same hr (by decide) (by rfl) (pa_cons (pe_cal c_is_kept hr (by decide) (by rfl) (pa_cons (pv 7) (pa_cons (pv 1) pa_nil))) (pa_cons pe_bl pa_nil))))) (pss_one (ps_ret pe_bl)) pss_nil)
      (pss_cons (ps_if (pt_not (pt_val (pe_cal c__law_same hr (by decide) (by rfl) (pa_cons (pe_cal c_least_barred hr (by decide) (by rfl) (pa_cons (pv 7) (pa_cons (pv 1) pa_nil))) (pa_cons (pe_op k_add (pv 6) pe_int) pa_nil))))) (pss_one (ps_ret pe_bl)) pss_nil)
      (pss_cons (ps_if (pt_not (pt_val (pe_cal c__law_same hr (by decide) (by rfl) (pa_cons (pe_cal c_is_kept_at hr (by decide) (by rfl) (pa_cons (pv 7) (pa_cons (pv 6) (pa_cons (pv 1) pa_nil)))) (pa_cons pe_bl pa_nil))))) (pss_one (ps_ret pe_bl)) pss_nil)
      (pss_cons (ps_if (pt_not (pt_val (pe_cal c__law_same hr (by decide) (by rfl) (pa_cons (pe_cal c_is_kept_at hr (by decide) (by rfl) (pa_cons (pv 7) (pa_cons (pe_op k_add (pv 6) pe_int) (pa_cons (pv 1) pa_nil)))) (pa_cons pe_bl pa_nil))))) (pss_one (ps_ret pe_bl)) pss_nil)
      (pss_cons (ps_for PassesOwn.never rfl (pi_tup (pe_tup (pa_cons (pv 2) (pa_cons (pv 3) (pa_cons (pv 4) pa_nil))))) (pg_name (i := 8) nd rfl (Or.inr rfl)) (pss_cons (ps_set (i := 9) nd rfl (Or.inl rfl) (pe_cal c__law_rest hr (by decide) (by rfl) (pa_cons (pv 0) (pa_cons (pv 1) (pa_cons (pv 2) (pa_cons (pv 3) (pa_cons (pv 8) (pa_cons (pv 5) pa_nil))))))))
      (pss_one (ps_if (pt_not (pt_val (pe_cal c__law_same hr (by decide) (by rfl) (pa_cons (pe_cal c_least_wait hr (by decide) (by rfl) (pa_cons (pv 7) (pa_cons (pv 1) (pa_cons (pv 8) pa_nil)))) (pa_cons (pv 9) pa_nil))))) (pss_one (ps_ret pe_bl)) pss_nil))))
      (pss_cons (ps_for PassesOwn.never rfl (pi_tup (pe_tup (pa_cons (pv 2) (pa_cons (pv 3) pa_nil)))) (pg_name (i := 8) nd rfl (Or.inr rfl)) (pss_cons (ps_set (i := 10) nd rfl (Or.inl rfl) (pe_callTy k_tuple (by rfl) T.B.tuple_ (by decide +kernel) (pa_cons (pe_lc (own := [("_law_k", 12)]) rfl nd (pi_range1 (by rfl) T.B.range_ (pa_cons (pe_callB k_len (by rfl) T.B.len_ (by decide +kernel) (pa_cons (pv 0) pa_nil)) pa_nil)) (blkOk_by (own := [("_law_k", 12)]) (by kernel_rfl)) (fun _ _ _ _ _ => (pg_name (i := 12) nd rfl (Or.inl rfl))) (fun _ _ _ _ _ => pts_nil) (fun _ _ _ _ _ => (pe_op k_add (pe_ix ix_seq (pv 1) (pv 12) (fun _ _ => rfl)) (pe_callTy k_int (by rfl) T.B.int_ (by decide +kernel) (pa_cons (pe_cmpR op_eq (pv 12) (pv 8) (nomark _)) pa_nil))))) pa_nil)))
      (pss_one (ps_if (pt_not (pt_val (pe_cal c__law_same hr (by decide) (by rfl) (pa_cons (pe_cal c_is_kept hr (by decide) (by rfl) (pa_cons (pv 7) (pa_cons (pv 10) pa_nil))) (pa_cons pe_bl pa_nil))))) (pss_one (ps_ret pe_bl)) pss_nil))))
      (pss_cons (L2N.ps_try_as (c := .ref C) (i := 11) (tb := tBodyO K C) (ts := tSuiteO K C) (Wout := fun _ _ _ _ => False) rfl rfl nd rfl (by rfl) ⟨by rfl, by decide, .inl X.gC⟩ (fun u s' ⟨_, _, _, _, _, _, _, _, _, _, _, _, _, _, _, _, z⟩ => z.elim)
        (fun W pn xe tk po => pss_one (ps_expr (pe_callS (ok_roomX T X FR FG gG bG) hr (by rfl) gR FR.kp bR (fun σ => L2N.passAt tk σ) (pa_cons (pv 7) (pa_cons (pv 1) (pa_cons (pv 3) (pa_cons (pv 2) pa_nil)))))))
        (fun a oe cls d pn hz ⟨vs, hd⟩ => pss_one (ps_ret (pe_calH (calH__law_bars T) (k := 6) ⟨hrH.dp, hrH.un⟩ (by decide) ⟨(a, oe), ⟨rfl, vs, hd, hz.2.2 vs hd⟩, List.mem_cons_self⟩ (by rfl) (pa_cons (pv 7) (pa_cons (pv 1) (pa_cons (pe_xf X.xf X.no hz.zc ⟨vs, hd⟩ (pv 11)) (pa_cons (pv 2) (pa_cons (pv 3) pa_nil)))))))))
      (pss_one (ps_ret pe_bl)))))))))))
section
variable {P : Program} {w : World} {K : PySem.W.Frag} {mg : Str → Option Value} {base : Heap}
theorem rd__law_over {C : Addr} {vs : List V} {H : Hp} {Q : VK} {E : XK} (hte : PySem.W.exmOne K (.ref C) (.ref C) = some true) (h : spOver K vs H Q E) :
    t__law_over K C (spPut K) (spBars K) (spBarring K) (spSame K 3) (spIsKept K) (spLeastBarred K) (spKeptAt K) (spRest K) (spLeastWait K) { nx := fun _ H' => Q .non H', rt := Q } (start N__law_over vs) H := by
  obtain ⟨n, a, b, g, t, x, y, z, s, h, rfl, hT, A, hz, q⟩ := h
  have hn := hT.le
  have hk := hT.kept
  have h1 := hT.one
  have hh := A.lt hk
  have hp := A.pos
  have no := over_not hk A.hx A.hy A.ne A.bs
  unfold t__law_over
  refine q_asgA (al_put (n := n) (g := g) (x := x) (y := y) (e := some (t x - s + 1)) hT.tab (by omega) A.hx A.hy (va_var rfl) (va_var rfl) (va_var rfl) (va_op (va_var (v := .int (t x - s)) rfl) va_c vr_add)) fun v H1 S1 ⟨ov, ev, hov⟩ => ?_
  subst ev
  have hW : TW K H1 n ov b (over g t x y s) t := ⟨hov, S1.t hT.wai, h1, by omega⟩
  have hT1 := hT.mono S1
  refine q_ifFAn (at_is (at_not (at_B (b := true) (al_barsO A hk (by omega) hov hT1.wai (va_var rfl) (va_var rfl) (al_barring hW hT.nn (va_var rfl) (va_var rfl)) (fun _ _ => va_var rfl) (fun _ _ => va_var rfl)))) rfl) fun H2 S2 => ?_
  have hW2 := hW.mono S2
  refine q_ifFAn (at_same (al_isKept hW2 hT.nn (va_var rfl) (va_var rfl)) fun v H3 S3 p => IsB.sameF (H1 := H3) p no) fun H3 S3 => ?_
  have hW3 := hW2.mono S3
  refine q_ifFAn (at_same (al_leastB hW3 hT.nn (va_var rfl) (va_var rfl)) fun v H4 S4 p => ⟨.int ((h : Int) + 1), va_op (va_var (v := .int (h : Int)) rfl) va_c vr_add, ?_⟩) fun H4 S4 => ?_
  · rcases p with ⟨k, _⟩ | ⟨_, k, ev, k1, k2, k3, k4⟩
    · exact absurd k no
    · have := over_least h1 hk A.hx A.hy A.ne A.bs A.wk A.mn hh k1 k2 k3 k4
      subst this
      rw [ev]
      exact .int _
  have hW4 := hW3.mono S4
  refine q_ifFAn (at_same (al_keptAt (k := (h : Int)) hW4 hT.nn (by omega) (by omega) (va_var rfl) (va_var rfl) (va_var rfl)) fun v H5 S5 p => IsB.same (H := H5) p (over_at h1 hk A.hx A.hy A.bs A.mn (Nat.le_refl h))) fun H5 S5 => ?_
  have hW5 := hW4.mono S5
  refine q_ifFAn (at_same (al_keptAt (k := (h : Int) + 1) hW5 hT.nn (by omega) (by omega) (va_var rfl) (va_op (va_var (v := .int (h : Int)) rfl) va_c vr_add) (va_var rfl)) fun v H6 S6 p => IsB.sameF (H1 := H6) p (over_not_at hk A.hx A.hy A.ne A.bs A.wk)) fun H6 S6 => ?_
  have hW6 := hW5.mono S6
  have S06 := ((((S1.trans S2).trans S3).trans S4).trans S5).trans S6
  refine q_forTN (vs := [.int (x : Int), .int (y : Int), .int (z : Int)]) (vs_cons (va_var rfl) (vs_cons (va_var rfl) (vs_cons (va_var rfl) vs_nil))) (show 3 ≤ 100000 by decide) fun H7 S7 => ⟨fun i σ' H' => ∃ v8 v9, σ' = [some (.ref a), some (.ref b), some (.int (x : Int)), some (.int (y : Int)), some (.int (z : Int)), some (.int (t x - s)), some (.int (h : Int)), some (.ref ov), v8, v9, none, none, none] ∧ Same H7 H', ⟨none, none, rfl, Same.refl _⟩, fun i σ' H' ⟨_, _, _, S⟩ => S, fun i v σ' H' hv ⟨v8, v9, es, S⟩ => ?_, fun σ' H' ⟨v8, v9, es, S⟩ => ?_⟩
  · subst es
    obtain ⟨d, ev, hd⟩ := nat_mem3 hv
    subst ev
    have hdn : d < n := by rcases hd with e | e | e <;> rw [e] <;> first | exact A.hx | exact A.hy | exact hz
    have S0 := (S06.trans S7).trans S
    have hTd := hT.mono S0
    refine q_asgA (al_call (P := fun v _ => (v = .int (t d + 1) ∧ (d = x ∨ d = y ∨ bestS n (off d (gn g t)) x y ≠ some s)) ∨ (v = .non ∧ d ≠ x ∧ d ≠ y ∧ bestS n (off d (gn g t)) x y = some s)) (vs_cons (va_var rfl) (vs_cons (va_var rfl) (vs_cons (va_var rfl) (vs_cons (va_var rfl) (vs_cons (va_var rfl) (vs_cons (va_var rfl) vs_nil)))))) fun Q2 E2 r => ⟨n, a, b, g, t, x, y, d, s, rfl, hTd.tk, A.hx, A.hy, hdn, r⟩) fun v H8 S8 hd2 => ?_
    refine st_ifFA (at_same (al_leastW ((hW6.mono ((S7.trans S).trans S8))) hT.nn hdn (va_var rfl) (va_var rfl) (va_var rfl)) fun u H9 S9 hu => ?_) fun H9 S9 => ⟨_, _, rfl, (S.trans S8).trans S9⟩
    rcases hd2 with ⟨ev, hc⟩ | ⟨ev, c1, c2, c3⟩
    · subst ev
      have hO : KeptO n (over g t x y s) t d := by
        by_cases e1 : d = x
        · exact over_end h1 hk A.hx A.hy A.bs (.inl e1)
        · by_cases e2 : d = y
          · exact over_end h1 hk A.hx A.hy A.bs (.inr e2)
          · exact (over_other h1 hk A.hx A.hy A.ne A.bs e1 e2).mpr (hc.elim (fun e => absurd e e1) fun hc => hc.elim (fun e => absurd e e2) id)
      rcases hu with ⟨h0, _⟩ | ⟨_, eu⟩
      · exact absurd hO h0
      · refine ⟨.int (t d + 1), va_var rfl, ?_⟩
        rw [eu, over_need hk hT.nn A.hx A.hy A.ne A.bs hdn hO]
        exact .int _
    · subst ev
      rcases hu with ⟨_, eu⟩ | ⟨hO, _⟩
      · exact ⟨.non, va_var rfl, by rw [eu]; exact .non⟩
      · exact absurd c3 ((over_other h1 hk A.hx A.hy A.ne A.bs c1 c2).mp hO)
  subst es
  have S7' := S7.trans S
  have hW7 := hW6.mono S7'
  have S07 := S06.trans S7'
  refine q_forTN (vs := [.int (x : Int), .int (y : Int)]) (vs_cons (va_var rfl) (vs_cons (va_var rfl) vs_nil)) (show 2 ≤ 100000 by decide) fun H8 S8 => ⟨fun i σ' H'' => ∃ v8 v10, σ' = [some (.ref a), some (.ref b), some (.int (x : Int)), some (.int (y : Int)), some (.int (z : Int)), some (.int (t x - s)), some (.int (h : Int)), some (.ref ov), v8, v9, v10, none, none] ∧ Same H8 H'', ⟨v8, none, rfl, Same.refl _⟩, fun i σ' H'' ⟨_, _, _, S⟩ => S, fun i v σ' H'' hv ⟨v8, v10, es, S⟩ => ?_, fun σ' H'' ⟨v8, v10, es, S⟩ => ?_⟩
  · subst es
    obtain ⟨d, ev, hd⟩ := nat_mem2 hv
    subst ev
    have hdn : d < n := by rcases hd with e | e <;> rw [e] <;> first | exact A.hx | exact A.hy
    have S0 := (S07.trans S8).trans S
    have hTd := hT.mono S0
    refine q_asgA (al_tupN (al_lcV (fun k => .int (up t d (t d + 1) k)) (src_R (n := n) (vs_cons (va_cb (vs_cons (va_var rfl) vs_nil) (vc_lenTT hTd.tab)) vs_nil) (by omega)) (fun _ => rfl) (by omega) fun k H9 hkn S9 => al_va (va_is (va_op (va_op (va_var rfl) (va_var rfl) (vr_xTt (S9.t hTd.wai) hkn)) (va_cb (vs_cons (va_op (va_var rfl) (va_var rfl) vr_eqI) vs_nil) vc_intB) vr_add) ?_))) fun v H9 S9 ⟨mo, ev, _, hmo⟩ => ?_
    · congr 1
      by_cases c : k = d
      · subst c
        rw [up_same, decide_eq_true rfl]; rfl
      · rw [up_ne c, decide_eq_false (by omega)]
        exact Int.add_zero _
    subst ev
    have hWm : TW K H9 n ov mo (over g t x y s) (up t d (t d + 1)) := ⟨(hW7.mono ((S8.trans S).trans S9)).tab, SqT.of hmo, h1, by omega⟩
    have nnm : NN n (up t d (t d + 1)) := fun i hi => by
      by_cases c : i = d
      · subst c; rw [up_same]; have := hT.nn i hi; omega
      · rw [up_ne c]; exact hT.nn i hi
    exact st_ifFA (at_same (al_isKept hWm nnm (va_var rfl) (va_var rfl)) fun u H10 S10 p => IsB.same (H := H10) p (over_more h1 hk A.hx A.hy A.bs hd)) fun H10 S10 => ⟨_, _, rfl, (S.trans S9).trans S10⟩
  subst es
  have S8' := S8.trans S
  have hW8 := hW7.mono S8'
  have S08 := S07.trans S8'
  refine q_tryO (vs_cons (va_var (v := .ref ov) rfl) (vs_cons (va_var (v := .ref b) rfl) (vs_cons (va_var (v := .int (y : Int)) rfl) (vs_cons (va_var (v := .int (x : Int)) rfl) vs_nil)))) fun Q2 => ⟨n, ov, b, over g t x y s, t, y, x, rfl, hW8, hT.nn, no, A.hy, A.hx, fun z => A.ne z.symm, fun d rA p c H10 S10 hd hP hr hs => ⟨true, hte, fun _ e _ => ?_, fun z => by cases z⟩⟩
  exact st_retA (al_call (P := fun v _ => v = .bl true) (vs_cons (va_var (v := .ref ov) rfl) (vs_cons (va_var (v := .ref b) rfl) (vs_cons (va_xf (va_var (v := .ref e) rfl) hd) (vs_cons (va_var (v := .int (x : Int)) rfl) (vs_cons (va_var (v := .int (y : Int)) rfl) vs_nil))))) fun Q3 E3 r => bars_over A hk (by omega) (S10.tt hW8.tab) (S10.t hW8.wai) hP hr hs r) fun v H11 S11 e => q v H11 ((S08.trans S10).trans S11) e
end
section
variable {P : Program} {w : World} {K : PySem.W.Frag} {mg : Str → Option Value} {base : Heap}
theorem cal__law_over (T : Txt K mg) {C fI : Addr} (X : ExnT K mg C fI) : Cal P w K mg base 7 "_law_over" ["_law_g", "_law_t", "_law_x", "_law_y", "_law_z", "_law_room", "_law_steps"] (spOver K) :=
  T._law_over.cal sc__law_over (fun vs H Q E h => by obtain ⟨n, a, b, g, t, x, y, z, s, h, rfl, _⟩ := h; rfl) (fun f cdv A outer s H vs Q E hr h => ⟨_, d__law_over T X (cal__law_put T) (cal__law_bars T) (cal_barring_doors T) (cal__law_same T 3) (cal_is_kept T) (cal_least_barred T) (cal_is_kept_at T) (cal__law_rest T) (cal_least_wait T) hr, rd__law_over X.te h⟩)
end
end K45
set_option Elab.async false
set_option linter.all false
set_option maxRecDepth 100000
set_option maxHeartbeats 200000
namespace K45
open PySem PySem.Spec PyProof.Rows L2
abbrev s__law_pair : Stmt := topS 73
theorem sc__law_pair : FnScope ["_law_g", "_law_t", "_law_rooms_here", "_law_x", "_law_y", "_law_z", "_law_low", "_law_room", "_law_free", "_law_full", "_law_own", "_law_door", "_law_entry", "_law_less", "_law_steps"] ["_law_g", "_law_t", "_law_rooms_here", "_law_x", "_law_y", "_law_z", "_law_low"] (defScope s__law_pair) := ⟨rfl, rfl, rfl, by decide +kernel, rfl, by decide +kernel, by decide +kernel⟩
def t__law_pair (K : PySem.W.Frag) (sp__law_same sp_room_of sp__law_put sp_is_kept sp__law_rooms sp_room_table sp_least_wait sp__law_tight sp__law_walks sp__law_over : Sp) : TS := (tSeq (tAsg (tOp (rIx K) (tOp (rIx K) (tVar 2) (tVar 3)) (tVar 4)) (gName 7))
    (tSeq (tIfS (tNot (tB (tCall sp__law_same [] E0 (tCons (tCall sp_room_of [] E0 (tCons (tVar 0) (tCons (tVar 1) (tCons (tVar 3) (tCons (tVar 4) tNil))))) (tCons (tVar 7) tNil))))) (tRet (tC (.bl false))) tNext)
    (tSeq (tIfS (tTest (tOp kIsN (tVar 7) (tC .non))) (tSeq (tAsg (tCall sp__law_put [] E0 (tCons (tVar 0) (tCons (tVar 3) (tCons (tVar 4) (tCons (tC (.int 20000000000000000000000000)) tNil))))) (gName 8))
    (tSeq (tIfS (tNot (tB (tCall sp__law_same [] E0 (tCons (tCall sp_is_kept [] E0 (tCons (tVar 8) (tCons (tVar 1) tNil))) (tCons (tC (.bl true)) tNil))))) (tRet (tC (.bl false))) tNext)
    (tRet (tCall sp__law_same [] E0 (tCons (tCall sp_room_of [] E0 (tCons (tVar 8) (tCons (tVar 1) (tCons (tVar 3) (tCons (tVar 4) tNil))))) (tCons (tC .non) tNil)))))) tNext)
    (tSeq (tAsg (tCall sp__law_put [] E0 (tCons (tVar 0) (tCons (tVar 3) (tCons (tVar 4) (tCons (tVar 7) tNil))))) (gName 9))
    (tSeq (tAsg (tCall sp__law_rooms [] E0 (tCons (tVar 9) (tCons (tVar 1) tNil))) (gName 10))
    (tSeq (tIfS (tOr (tNot (tB (tCall sp__law_same [] E0 (tCons (tCall sp_room_table [] E0 (tCons (tVar 9) (tCons (tVar 1) tNil))) (tCons (tVar 10) tNil))))) (tTest (tOp rNe (tOp (rIx K) (tOp (rIx K) (tVar 10) (tVar 3)) (tVar 4)) (tVar 7)))) (tRet (tC (.bl false))) tNext)
    (tSeq (tFor (iTup K (tTup (tCons (tVar 3) (tCons (tVar 4) tNil)))) (gName 11) (tSeq (tIfS (tNot (tB (tCall sp__law_same [] E0 (tCons (tCall sp_least_wait [] E0 (tCons (tVar 9) (tCons (tVar 1) (tCons (tVar 11) tNil)))) (tCons (tOp (rIx K) (tVar 1) (tVar 11)) tNil))))) (tRet (tC (.bl false))) tNext)
    (tIfS (tNot (tB (tCall sp__law_tight [] E0 (tCons (tVar 9) (tCons (tVar 1) (tCons (tVar 10) (tCons (tVar 11) tNil))))))) (tRet (tC (.bl false))) tNext)))
    (tSeq (tFor (iTup K (tTup (tCons (tC .non) (tCons (tOp rSub (tVar 7) (tVar 6)) tNil)))) (gName 12) (tSeq (tAsg (tCall sp__law_put [] E0 (tCons (tVar 0) (tCons (tVar 3) (tCons (tVar 4) (tCons (tVar 12) tNil))))) (gName 13))
    (tIfS (tNot (tB (tCall sp__law_same [] E0 (tCons (tTup (tCons (tCall sp_is_kept [] E0 (tCons (tVar 13) (tCons (tVar 1) tNil))) (tCons (tCall sp_room_of [] E0 (tCons (tVar 13) (tCons (tVar 1) (tCons (tVar 3) (tCons (tVar 4) tNil))))) tNil))) (tCons (tTup (tCons (tC (.bl true)) (tCons (tVar 7) tNil))) tNil))))) (tRet (tC (.bl false))) tNext)))
    (tSeq (tAsg (tOp rMod (tCB cInt (tCons (tOp (rIx K) (tOp (rIx K) (tCall sp__law_walks [] E0 (tCons (tVar 0) (tCons (tVar 1) (tCons (tTup tNil) tNil)))) (tVar 4)) (tVar 3)) tNil)) (tC (.int 64))) (gName 14))
    (tRet (tCall sp__law_over [] E0 (tCons (tVar 0) (tCons (tVar 1) (tCons (tVar 3) (tCons (tVar 4) (tCons (tVar 5) (tCons (tVar 7) (tCons (tVar 14) tNil))))))))))))))))))
theorem d__law_pair {P : Program} {w : World} {K : PySem.W.Frag} {mg : Str → Option Value} {base : Heap} (B : Bif mg) {sp__law_same sp_room_of sp__law_put sp_is_kept sp__law_rooms sp_room_table sp_least_wait sp__law_tight sp__law_walks sp__law_over : Sp} (c__law_same : Cal P w K mg base 4 "_law_same" ["_law_thing", "_law_due"] sp__law_same) (c_room_of : Cal P w K mg base 6 "room_of" ["table", "waits", "door", "other"] sp_room_of) (c__law_put : Cal P w K mg base 1 "_law_put" ["_law_g", "_law_x", "_law_y", "_law_entry"] sp__law_put) (c_is_kept : Cal P w K mg base 5 "is_kept" ["table", "waits"] sp_is_kept) (c__law_rooms : Cal P w K mg base 2 "_law_rooms" ["_law_g", "_law_t"] sp__law_rooms) (c_room_table : Cal P w K mg base 4 "room_table" ["table", "waits"] sp_room_table) (c_least_wait : Cal P w K mg base 5 "least_wait" ["table", "waits", "door"] sp_least_wait) (c__law_tight : Cal P w K mg base 6 "_law_tight" ["_law_g", "_law_t", "_law_rooms_here", "_law_door"] sp__law_tight) (c__law_walks : Cal P w K mg base 1 "_law_walks" ["_law_g", "_law_t", "_law_without"] sp__law_walks) (c__law_over : Cal P w K mg base 7 "_law_over" ["_law_g", "_law_t", "_law_x", "_law_y", "_law_z", "_law_room", "_law_steps"] sp__law_over) {f : Addr} {cdv : Value} {A : Around} {outer : List Env} {s : Shared} {H : Hp} {E : XK} (hr : Room 7 (A.deeper (envOfC "_law_pair" (defScope s__law_pair) s.heap.objs.size f cdv))) :
    PSs (cxOf CX0 P w K mg base ["_law_g", "_law_t", "_law_rooms_here", "_law_x", "_law_y", "_law_z", "_law_low", "_law_room", "_law_free", "_law_full", "_law_own", "_law_door", "_law_entry", "_law_less", "_law_steps"] "_law_pair" (defScope s__law_pair) f cdv A outer s H E).nox (defBody s__law_pair) (t__law_pair K sp__law_same sp_room_of sp__law_put sp_is_kept sp__law_rooms sp_room_table sp_least_wait sp__law_tight sp__law_walks sp__law_over) := by
  have nd := sc__law_pair.nd
  exact (pss_cons (ps_set (i := 7) nd rfl (Or.inl rfl) (pe_ix ix_seq (pe_ix ix_seq (pv 2) (pv 3) (fun _ _ => rfl)) (pv 4) (fun _ _ => rfl)))
      (pss_cons (ps_if (pt_not (pt_val (pe_cal c__law_same hr (by decide) (by rfl) (pa_cons (pe_cal c_room_of hr (by decide) (by rfl) (pa_cons (pv 0) (pa_cons (pv 1) (pa_cons (pv 3) (pa_cons (pv 4) pa_nil))))) (pa_cons (pv 7) pa_nil))))) (pss_one (ps_ret pe_bl)) pss_nil)
      (pss_cons (ps_if (pt_cmpR k_isN (pv 7) pe_non (nomark _)) (pss_cons (ps_set (i := 8) nd rfl (Or.inl rfl) (pe_cal c__law_put hr (by decide) (by rfl) (pa_cons (pv 0) (pa_cons (pv 3) (pa_cons (pv 4) (pa_cons pe_int pa_nil))))))
      (pss_cons (ps_if (pt_not (pt_val (pe_cal c__law_same hr (by decide) (by rfl) (pa_cons (pe_cal c_is_kept hr (by decide) (by rfl) (pa_cons (pv 8) (pa_cons (pv 1) pa_nil))) (pa_cons pe_bl pa_nil))))) (pss_one (ps_ret pe_bl)) pss_nil)
      (pss_one (ps_ret (pe_cal c__law_same hr (by decide) (by rfl) (pa_cons (pe_cal c_room_of hr (by decide) (by rfl) (pa_cons (pv 8) (pa_cons (pv 1) (pa_cons (pv 3) (pa_cons (pv 4) pa_nil))))) (pa_cons pe_non pa_nil))))))) pss_nil)
      (pss_cons (ps_set (i := 9) nd rfl (Or.inl rfl) (pe_cal c__law_put hr (by decide) (by rfl) (pa_cons (pv 0) (pa_cons (pv 3) (pa_cons (pv 4) (pa_cons (pv 7) pa_nil))))))
      (pss_cons (ps_set (i := 10) nd rfl (Or.inl rfl) (pe_cal c__law_rooms hr (by decide) (by rfl) (pa_cons (pv 9) (pa_cons (pv 1) pa_nil))))
      (pss_cons (ps_if (PW.pt (pw_or (pt_not (pt_val (pe_cal c__law_same hr (by decide) (by rfl) (pa_cons (pe_cal c_room_table hr (by decide) (by rfl) (pa_cons (pv 9) (pa_cons (pv 1) pa_nil))) (pa_cons (pv 10) pa_nil))))) (pw_or1 (pt_cmpR op_ne (pe_ix ix_seq (pe_ix ix_seq (pv 10) (pv 3) (fun _ _ => rfl)) (pv 4) (fun _ _ => rfl)) (pv 7) (nomark _))))) (pss_one (ps_ret pe_bl)) pss_nil)
      (pss_cons (ps_for PassesOwn.never rfl (pi_tup (pe_tup (pa_cons (pv 3) (pa_cons (pv 4) pa_nil)))) (pg_name (i := 11) nd rfl (Or.inl rfl)) (pss_cons (ps_if (pt_not (pt_val (pe_cal c__law_same hr (by decide) (by rfl) (pa_cons (pe_cal c_least_wait hr (by decide) (by rfl) (pa_cons (pv 9) (pa_cons (pv 1) (pa_cons (pv 11) pa_nil)))) (pa_cons (pe_ix ix_seq (pv 1) (pv 11) (fun _ _ => rfl)) pa_nil))))) (pss_one (ps_ret pe_bl)) pss_nil)
      (pss_one (ps_if (pt_not (pt_val (pe_cal c__law_tight hr (by decide) (by rfl) (pa_cons (pv 9) (pa_cons (pv 1) (pa_cons (pv 10) (pa_cons (pv 11) pa_nil))))))) (pss_one (ps_ret pe_bl)) pss_nil))))
      (pss_cons (ps_for PassesOwn.never rfl (pi_tup (pe_tup (pa_cons pe_non (pa_cons (pe_op k_sub (pv 7) (pv 6)) pa_nil)))) (pg_name (i := 12) nd rfl (Or.inl rfl)) (pss_cons (ps_set (i := 13) nd rfl (Or.inl rfl) (pe_cal c__law_put hr (by decide) (by rfl) (pa_cons (pv 0) (pa_cons (pv 3) (pa_cons (pv 4) (pa_cons (pv 12) pa_nil))))))
      (pss_one (ps_if (pt_not (pt_val (pe_cal c__law_same hr (by decide) (by rfl) (pa_cons (pe_tup (pa_cons (pe_cal c_is_kept hr (by decide) (by rfl) (pa_cons (pv 13) (pa_cons (pv 1) pa_nil))) (pa_cons (pe_cal c_room_of hr (by decide) (by rfl) (pa_cons (pv 13) (pa_cons (pv 1) (pa_cons (pv 3) (pa_cons (pv 4) pa_nil))))) pa_nil))) (pa_cons (pe_tup (pa_cons pe_bl (pa_cons (pv 7) pa_nil))) pa_nil))))) (pss_one (ps_ret pe_bl)) pss_nil))))
      (pss_cons (ps_set (i := 14) nd rfl (Or.inl rfl) (pe_op k_mod (pe_callTy k_int (by rfl) B.int_ (by decide +kernel) (pa_cons (pe_ix ix_seq (pe_ix ix_seq (pe_cal c__law_walks hr (by decide) (by rfl) (pa_cons (pv 0) (pa_cons (pv 1) (pa_cons (pe_tup pa_nil) pa_nil)))) (pv 4) (fun _ _ => rfl)) (pv 3) (fun _ _ => rfl)) pa_nil)) pe_int))
      (pss_one (ps_ret (pe_cal c__law_over hr (by decide) (by rfl) (pa_cons (pv 0) (pa_cons (pv 1) (pa_cons (pv 3) (pa_cons (pv 4) (pa_cons (pv 5) (pa_cons (pv 7) (pa_cons (pv 14) pa_nil)))))))))))))))))))

section
variable {P : Program} {w : World} {K : PySem.W.Frag} {mg : Str → Option Value} {base : Heap}
/-- _law_same of two things made on the way -/
theorem al_same2 {σ : L2.St} {H : Hp} {ta tb : TE} {Pv : V → Hp → Prop} (h : Al ta σ H Pv) (k : ∀ v H1, Same H H1 → Pv v H1 → Al tb σ H1 (fun y H2 => SameR K H2 2 v y)) : Al (tCall (spSame K 3) [] E0 (tCons ta (tCons tb tNil))) σ H (fun v _ => v = .bl true) := fun Q q =>
  h _ fun v H1 S p => k v H1 S p _ fun y H2 S2 r => ⟨v, y, rfl, r, fun v' H3 S3 e => q v' H3 ((S.trans S2).trans S3) e⟩
/-- a pair of things made on the way -/
theorem al_pairA {σ : L2.St} {H : Hp} {ta tb : TE} {x y : V} (ha : Al ta σ H (fun v _ => v = x)) (hb : ∀ H1, Same H H1 → Al tb σ H1 (fun v _ => v = y)) : Al (tTup (tCons ta (tCons tb tNil))) σ H (fun v H' => ∃ p, v = .ref p ∧ H' p = some (.tup [x, y])) := fun Q q =>
  ha _ fun v H1 S1 e1 => hb H1 S1 _ fun u H2 S2 e2 => by
    subst e1 e2
    exact ⟨small_line (show 2 ≤ 100000 by decide), fun p hp => q _ _ ((S1.trans S2).trans (same_new hp)) ⟨p, rfl, upd_same⟩⟩
theorem same_pair {H : Hp} {p q : Addr} {x y : V} (h1 : SqT K H p [x, y]) (h2 : SqT K H q [x, y]) (hx : SameR K H 1 x x) (hy : SameR K H 1 y y) : SameR K H 2 (.ref p) (.ref q) := by
  have e : [x, y] = tab 2 fun i => if i = 0 then x else y := rfl
  rw [e] at h1 h2
  refine .tup h1 h2 (by decide) fun i hi => ?_
  by_cases c : i = 0
  · rw [if_pos c]; exact hx
  · rw [if_neg c]; exact hy
def spPair (K : PySem.W.Frag) : Sp := fun vs H Q _ => ∃ (n : Nat) (a b ro : Addr) (g : Gr) (t : Nat → Int) (x y z : Nat) (lo : Int), vs = [.ref a, .ref b, .ref ro, .int (x : Int), .int (y : Int), .int (z : Int), .int lo] ∧ TKT K H n a b g t ∧ TR K H ro n n (oI (roomF n g t)) ∧ x < n ∧ y < n ∧ y ≠ x ∧ z < n ∧ 0 ≤ lo ∧ Ret (fun v _ => v = .bl true) H Q
/-- the walks' entry from y to x -/
theorem al_stepsAt {σ : L2.St} {H : Hp} {n : Nat} {a b : Addr} {g : Gr} {t : Nat → Int} {x y : Nat} {s : Int} {ta tb tx ty : TE} (hT : TK K H n a b g t) (hx : x < n) (hy : y < n) (hs : bestS n (gn g t) x y = some s) (ha : Va ta σ H (.ref a)) (hb : Va tb σ H (.ref b)) (h1 : ∀ H1, Same H H1 → Va tx σ H1 (.int (x : Int))) (h2 : ∀ H1, Same H H1 → Va ty σ H1 (.int (y : Int))) :
    Al (tOp rMod (tCB cInt (tCons (tOp (rIx K) (tOp (rIx K) (tCall (spWalks2 K) [] E0 (tCons ta (tCons tb (tCons (tTup tNil) tNil)))) ty) tx) tNil)) (tC (.int 64))) σ H (fun v _ => ∃ h : Nat, v = .int (h : Int) ∧ Wk n (gn g t) y x s h ∧ ∀ h', Wk n (gn g t) y x s h' → h ≤ h') := fun Q q =>
  al_walks (z := none) hT ha hb (al_tup (vs := []) vs_nil) _ fun v H1 S1 ⟨p, ev, rd, r1, r2⟩ => by
    subst ev
    have Wy := way_of (z := none) hT.kept hT.le hx hy
    rcases Wy with ⟨_, w2⟩ | ⟨s', h, w1, w2, w3, w4, w5⟩
    · have w2 : bestS n (gn g t) x y = none := w2
      rw [hs] at w2
      cases w2
    · have w2 : bestS n (gn g t) x y = some s' := w2
      rw [hs] at w2
      cases w2
      refine h2 H1 S1 _ (vr_xLl (f := fun i => .ref (rd i)) r1 hy _ (h1 H1 S1 _ (vr_xLl (f := oI (fw (shun none (gn g t)) n) y) (r2 y hy) hx _ ?_)))
      refine .inl ⟨(h : Int) - 64 * s, by rw [show oI (fw (shun none (gn g t)) n) y x = .int ((h : Int) - 64 * s) from oV_some w1], ⟨_, _, rfl, rfl, by show (0 : Int) < 64; decide, ?_⟩⟩
      have e : ((h : Int) - 64 * s) % 64 = (h : Int) := by omega
      show Q (.int (((h : Int) - 64 * s) % 64)) H1
      rw [e]
      exact q _ H1 S1 ⟨h, rfl, w4, w5⟩
set_option maxHeartbeats 1000000 in
theorem cal__law_pair (T : Txt K mg) {C fI : Addr} (X : ExnT K mg C fI) : Cal P w K mg base 8 "_law_pair" ["_law_g", "_law_t", "_law_rooms_here", "_law_x", "_law_y", "_law_z", "_law_low"] (spPair K) := by
  refine T._law_pair.cal sc__law_pair (fun vs H Q E h => ?_) (fun f cdv A outer s H vs Q E hr h => ⟨_, d__law_pair T.B (cal__law_same T 3) (cal_room_of T) (cal__law_put T) (cal_is_kept T) (cal__law_rooms T) (cal_room_table T) (cal_least_wait T) (cal__law_tight T) (cal__law_walks T) (cal__law_over T X) hr, ?_⟩)
  · obtain ⟨n, a, b, ro, g, t, x, y, z, lo, rfl, _⟩ := h; rfl
  obtain ⟨n, a, b, ro, g, t, x, y, z, lo, rfl, hT, hro, hx, hy, ne, hz, hlo, q⟩ := h
  have hn := hT.le
  have hk := hT.kept
  have h1 := hT.one
  unfold t__law_pair
  refine q_asg (v := oV (roomF n g t x y)) (va_TT hro (va_var rfl) (va_var rfl) (va_var rfl) hx hy) ?_
  refine q_ifFAn (at_same (al_roomOf hT.tw hT.nn hk hx hy ne (va_var rfl) (va_var rfl) (va_var rfl) (va_var rfl)) fun v H1 S1 ev => ⟨oV (roomF n g t x y), va_var rfl, by rw [ev]; exact sameO _⟩) fun H1 S1 => ?_
  have hT1 := hT.mono S1
  cases cr : roomF n g t x y with
  | none =>
    have hb := room_none ne cr
    refine q_ifT (vt_test (va_op (va_var (v := .non) rfl) va_c vr_isNn)) ?_
    refine q_asgA (al_put (n := n) (g := g) (x := x) (y := y) (e := some 20000000000000000000000000) hT1.tab (by omega) hx hy (va_var rfl) (va_var rfl) (va_var rfl) va_c) fun v H2 S2 ⟨fa, ev, hf⟩ => ?_
    subst ev
    have hkf : Kept n (put g x y (some 20000000000000000000000000)) t := kept_put h1 hk hx hy fun e' s _ hs => by rw [hb] at hs; cases hs
    have hWf : TW K H2 n fa b (put g x y (some 20000000000000000000000000)) t := ⟨hf, S2.t hT1.wai, h1, by omega⟩
    refine q_ifFAn (at_same (al_isKept hWf hT.nn (va_var rfl) (va_var rfl)) fun v H3 S3 p => IsB.same (H := H3) p hkf) fun H3 S3 => ?_
    refine st_retA (al_same (al_roomOf (hWf.mono S3) hT.nn hkf hx hy ne (va_var rfl) (va_var rfl) (va_var rfl) (va_var rfl)) fun v H4 S4 ev => ⟨.non, va_c, ?_⟩) fun v H4 S4 e => q v H4 (((S1.trans S2).trans S3).trans S4) e
    rw [ev, room_put hk hx hy _ y hy, cr]
    exact .non
  | some rm =>
    obtain ⟨s, hs, ers⟩ := room_some ne cr
    subst ers
    refine q_ifFn (vt_test (va_op (va_var (v := .int (t x - s)) rfl) va_c vr_isNi)) ?_
    refine q_asgA (al_put (n := n) (g := g) (x := x) (y := y) (e := some (t x - s)) hT1.tab (by omega) hx hy (va_var rfl) (va_var rfl) (va_var rfl) (va_var (v := .int (t x - s)) rfl)) fun v H2 S2 ⟨fa, ev, hf⟩ => ?_
    subst ev
    have hkf := full_kept h1 hk hx hy hs
    have hTf : TKT K H2 n fa b (full g t x y s) t := ⟨hf, S2.t hT1.wai, h1, hn, hkf, hT.nn, put_dg ne hT.dg⟩
    refine q_asgA (al_rooms hTf.tk (va_var rfl) (va_var rfl)) fun v H3 S3 ⟨ow, ev, how⟩ => ?_
    subst ev
    have hTf3 := hTf.mono S3
    have hrf : roomF n (full g t x y s) t x y = some (t x - s) := by rw [room_put hk hx hy _ y hy, cr]
    refine q_ifFAn (at_is (at_orF (at_same (al_roomTable hTf3 (va_var rfl) (va_var rfl)) fun v H4 S4 ⟨rt, ev, hrt⟩ => ⟨.ref ow, va_var rfl, by rw [ev]; exact sameTR hrt (S4.tt how) (by omega)⟩) fun H4 S4 => at_vt (vt_test (va_op (va_is (va_TT (S4.tt how) (va_var rfl) (va_var rfl) (va_var rfl) hx hy) (oV_some hrf)) (va_var (v := .int (t x - s)) rfl) vr_neI))) (by rw [decide_eq_true rfl]; rfl)) fun H4 S4 => ?_
    have hTf4 := hTf3.mono S4
    have how4 := S4.tt how
    have S04 := ((S1.trans S2).trans S3).trans S4
    refine q_forTN (vs := [.int (x : Int), .int (y : Int)]) (vs_cons (va_var rfl) (vs_cons (va_var rfl) vs_nil)) (show 2 ≤ 100000 by decide) fun H5 S5 => ⟨fun i σ' H' => ∃ v11, σ' = [some (.ref a), some (.ref b), some (.ref ro), some (.int (x : Int)), some (.int (y : Int)), some (.int (z : Int)), some (.int lo), some (.int (t x - s)), none, some (.ref fa), some (.ref ow), v11, none, none, none] ∧ Same H5 H', ⟨none, rfl, Same.refl _⟩, fun i σ' H' ⟨_, _, S⟩ => S, fun i v σ' H' hv ⟨v11, es, S⟩ => ?_, fun σ' H' ⟨v11, es, S⟩ => ?_⟩
    · subst es
      obtain ⟨d, ev, hd⟩ := nat_mem2 hv
      subst ev
      have hdn : d < n := by rcases hd with e | e <;> rw [e] <;> first | exact hx | exact hy
      have S' := S5.trans S
      have hTd := hTf4.mono S'
      refine q_ifFAn (at_same (al_leastW hTd.tw hT.nn hdn (va_var rfl) (va_var rfl) (va_var rfl)) fun u H6 S6 hu => ⟨.int (t d), va_op (va_var rfl) (va_var rfl) (vr_xTt (S6.t hTd.wai) hdn), ?_⟩) fun H6 S6 => ?_
      · rcases hu with ⟨h0, _⟩ | ⟨_, eu⟩
        · exact absurd (kept_cut hkf d) h0
        · rw [eu, full_need h1 hk hT.nn hx hy ne hs hd]
          exact .int _
      · exact st_ifFA (at_is (at_not (at_B (b := true) (al_call (P := fun v _ => v = .bl true) (vs_cons (va_var rfl) (vs_cons (va_var rfl) (vs_cons (va_var rfl) (vs_cons (va_var rfl) vs_nil)))) fun Q2 E2 r => ⟨n, fa, b, ow, full g t x y s, t, d, rfl, (hTd.mono S6).tkr ((S'.trans S6).tt how4), hdn, r⟩))) rfl) fun H7 S7 => ⟨_, rfl, (S.trans S6).trans S7⟩
    subst es
    have S05 := (S04.trans S5).trans S
    refine q_forTN (vs := [.non, .int (t x - s - lo)]) (vs_cons va_c (vs_cons (va_op (va_var (v := .int (t x - s)) rfl) (va_var rfl) vr_sub) vs_nil)) (show 2 ≤ 100000 by decide) fun H6 S6 => ⟨fun i σ' H'' => ∃ v12 v13, σ' = [some (.ref a), some (.ref b), some (.ref ro), some (.int (x : Int)), some (.int (y : Int)), some (.int (z : Int)), some (.int lo), some (.int (t x - s)), none, some (.ref fa), some (.ref ow), v11, v12, v13, none] ∧ Same H6 H'', ⟨none, none, rfl, Same.refl _⟩, fun i σ' H'' ⟨_, _, _, S⟩ => S, fun i v σ' H'' hv ⟨v12, v13, es, S7⟩ => ?_, fun σ' H'' ⟨v12, v13, es, S7⟩ => ?_⟩
    · subst es
      have he : ∃ e : Option Int, v = oV e ∧ ∀ e', e = some e' → e' - t x + s ≤ 0 := by
        have := List.mem_of_getElem? hv
        simp only [List.mem_cons, List.not_mem_nil, or_false] at this
        rcases this with e | e
        · exact ⟨none, e, fun _ z => by cases z⟩
        · exact ⟨some (t x - s - lo), e, fun e' z => by cases z; omega⟩
      obtain ⟨e, ev, hle⟩ := he
      subst ev
      have S07 := (S05.trans S6).trans S7
      have hT7 := hT.mono S07
      refine q_asgA (al_put (n := n) (g := g) (x := x) (y := y) (e := e) hT7.tab (by omega) hx hy (va_var rfl) (va_var rfl) (va_var rfl) (va_var rfl)) fun v H8 S8 ⟨le, ev, hl⟩ => ?_
      subst ev
      have hkl : Kept n (put g x y e) t := kept_put h1 hk hx hy fun e' s' ee hs' => by
        rw [hs] at hs'
        cases hs'
        exact hle e' ee
      have hWl : TW K H8 n le b (put g x y e) t := ⟨hl, S8.t hT7.wai, h1, by omega⟩
      refine st_ifFA (at_is (at_not (at_B (b := true) (al_same2 (al_pairA (x := .bl true) (y := .int (t x - s)) (Al.imp (al_isKept hWl hT.nn (va_var rfl) (va_var rfl)) fun u H9 _ ⟨c, e1, e2⟩ => by rw [e1, e2.mpr hkl]) fun H9 S9 => Al.imp (al_roomOf (hWl.mono S9) hT.nn hkl hx hy ne (va_var rfl) (va_var rfl) (va_var rfl) (va_var rfl)) fun u H10 _ e1 => by rw [e1, room_put hk hx hy _ y hy, cr]; rfl) fun u H9 S9 ⟨p1, eu, hp1⟩ => ?_))) rfl) fun H9 S9 => ⟨_, _, rfl, (S7.trans S8).trans S9⟩
      subst eu
      exact Al.imp (al_tup (vs := [.bl true, .int (t x - s)]) (vs_cons va_c (vs_cons (va_var rfl) vs_nil))) fun u H10 S10 ⟨p2, e2, _, hp2⟩ => by
        subst e2
        exact same_pair (SqT.of (S10 _ _ hp1)) (SqT.of hp2) (.bl true) (.int _)
    subst es
    have S07 := (S05.trans S6).trans S7
    have hT7 := hT.mono S07
    refine q_asgA (al_stepsAt hT7.tk hx hy hs (va_var rfl) (va_var rfl) (fun _ _ => va_var rfl) (fun _ _ => va_var rfl)) fun v H8 S8 ⟨h, ev, hwk, hmn⟩ => ?_
    subst ev
    exact st_retA (al_call (P := fun v _ => v = .bl true) (vs_cons (va_var rfl) (vs_cons (va_var rfl) (vs_cons (va_var rfl) (vs_cons (va_var rfl) (vs_cons (va_var rfl) (vs_cons (va_var rfl) (vs_cons (va_var rfl) vs_nil))))))) fun Q2 E2 r => ⟨n, a, b, g, t, x, y, z, s, h, rfl, hT7.mono S8, ⟨hx, hy, ne, hs, hwk, hmn⟩, hz, r⟩) fun v H9 S9 e => q v H9 ((S07.trans S8).trans S9) e
end
end K45
set_option Elab.async false
set_option linter.all false
set_option maxRecDepth 100000
set_option maxHeartbeats 200000
namespace K45
open PySem PySem.Spec PyProof.Rows L2
abbrev s_law : Stmt := topS 80
theorem sc_law : FnScope ["_law_script", "_law_d", "_law_unit", "_law_b", "_law_g", "_law_t", "_law_rooms_here", "_law_x", "_law_y", "_law_z", "_law_menu", "_law_k"] ["_law_script"] (defScope s_law) := ⟨rfl, rfl, rfl, by decide +kernel, rfl, by decide +kernel, by decide +kernel⟩
def t_law (K : PySem.W.Frag) (sp__law_draws sp__law_take sp__law_table sp__law_waits sp__law_rooms sp__law_same sp_is_kept sp_room_table sp__law_pair sp__law_tight sp_is_bare sp__law_is_bare sp__law_costs sp__law_bared sp__law_all : Sp) : TS := (tSeq (tAsg (tCall sp__law_draws [] E0 (tCons (tVar 0) tNil)) (gName 1))
    (tSeq (tAsg (tOp (rIx K) (tTup (tCons (tC (.int 1)) (tCons (tC (.int 1)) (tCons (tC (.int 1)) (tCons (tC (.int 1)) (tCons (tC (.int 1)) (tCons (tC (.int 300000000000000000000007)) (tCons (tC (.int 1)) (tCons (tC (.int 1)) tNil))))))))) (tCall sp__law_take [] E0 (tCons (tVar 1) (tCons (tC (.int 8)) tNil)))) (gName 2))
    (tSeq (tAsg (tOp (rIx K) (tTup (tCons (tC (.int 3)) (tCons (tC (.int 4)) (tCons (tC (.int 2)) (tCons (tC (.int 5)) (tCons (tC (.int 4)) (tCons (tC (.int 3)) (tCons (tC (.int 8)) (tCons (tC (.int 6)) tNil))))))))) (tCall sp__law_take [] E0 (tCons (tVar 1) (tCons (tC (.int 8)) tNil)))) (gName 3))
    (tSeq (tAsg (tCall sp__law_table [] E0 (tCons (tVar 1) (tCons (tVar 3) (tCons (tVar 2) tNil)))) (gName 4))
    (tSeq (tAsg (tCall sp__law_waits [] E0 (tCons (tVar 1) (tCons (tVar 4) tNil))) (gName 5))
    (tSeq (tAsg (tCall sp__law_rooms [] E0 (tCons (tVar 4) (tCons (tVar 5) tNil))) (gName 6))
    (tSeq (tIfS (tOr (tNot (tB (tCall sp__law_same [] E0 (tCons (tCall sp_is_kept [] E0 (tCons (tVar 4) (tCons (tVar 5) tNil))) (tCons (tC (.bl true)) tNil))))) (tNot (tB (tCall sp__law_same [] E0 (tCons (tCall sp_room_table [] E0 (tCons (tVar 4) (tCons (tVar 5) tNil))) (tCons (tVar 6) tNil)))))) (tRet (tC (.bl false))) tNext)
    (tSeq (tAsg (tCall sp__law_take [] E0 (tCons (tVar 1) (tCons (tVar 3) tNil))) (gName 7))
    (tSeq (tAsg (tOp rMod (tOp rAdd (tOp rAdd (tVar 7) (tC (.int 1))) (tCall sp__law_take [] E0 (tCons (tVar 1) (tCons (tOp rSub (tVar 3) (tC (.int 1))) tNil)))) (tVar 3)) (gName 8))
    (tSeq (tAsg (tCall sp__law_take [] E0 (tCons (tVar 1) (tCons (tVar 3) tNil))) (gName 9))
    (tSeq (tIfS (tNot (tB (tCall sp__law_pair [] E0 (tCons (tVar 4) (tCons (tVar 5) (tCons (tVar 6) (tCons (tVar 7) (tCons (tVar 8) (tCons (tVar 9) (tCons (tOp rAdd (tC (.int 1)) (tCall sp__law_take [] E0 (tCons (tVar 1) (tCons (tC (.int 9)) tNil)))) tNil)))))))))) (tRet (tC (.bl false))) tNext)
    (tSeq (tIfS (tNot (tB (tCall sp__law_tight [] E0 (tCons (tVar 4) (tCons (tVar 5) (tCons (tVar 6) (tCons (tVar 9) tNil))))))) (tRet (tC (.bl false))) tNext)
    (tSeq (tIfS (tNot (tB (tCall sp__law_same [] E0 (tCons (tCall sp_is_bare [] E0 (tCons (tVar 4) (tCons (tVar 5) tNil))) (tCons (tCall sp__law_is_bare [] E0 (tCons (tVar 4) (tCons (tVar 5) (tCons (tVar 6) tNil)))) tNil))))) (tRet (tC (.bl false))) tNext)
    (tSeq (tAsg (tCall sp__law_take [] E0 (tCons (tVar 1) (tCons (tC (.int 3)) tNil))) (gName 10))
    (tSeq (tIfS (tTest (tOp rEq (tVar 10) (tC (.int 0)))) (tRet (tCall sp__law_costs [] E0 (tCons (tVar 4) (tCons (tCB (cTup K) (tCons (tLc (iRng1 (tCons (tVar 3) tNil)) (gName 11) tYes (tCall sp__law_take [] E0 (tCons (tVar 1) (tCons (tC (.int 7)) tNil))) [11]) tNil)) (tCons (tVar 7) (tCons (tVar 8) tNil)))))) tNext)
    (tSeq (tIfS (tOr (tTest (tOp rEq (tVar 10) (tC (.int 1)))) (tTest (tOp rGt (tVar 3) (tC (.int 4))))) (tRet (tCall sp__law_bared [] E0 (tCons (tVar 4) (tCons (tVar 5) (tCons (tVar 9) tNil))))) tNext)
    (tRet (tCall sp__law_all [] E0 (tCons (tVar 4) (tCons (tVar 5) (tCons (tCall sp__law_take [] E0 (tCons (tVar 1) (tCons (tOp rMul (tVar 3) (tVar 3)) tNil))) tNil)))))))))))))))))))))
theorem d_law {P : Program} {w : World} {K : PySem.W.Frag} {mg : Str → Option Value} {base : Heap} (B : Bif mg) {sp__law_draws sp__law_take sp__law_table sp__law_waits sp__law_rooms sp__law_same sp_is_kept sp_room_table sp__law_pair sp__law_tight sp_is_bare sp__law_is_bare sp__law_costs sp__law_bared sp__law_all : Sp} (c__law_draws : Cal P w K mg base 1 "_law_draws" ["_law_script"] sp__law_draws) (c__law_take : Cal P w K mg base 1 "_law_take" ["_law_d", "_law_b"] sp__law_take) (c__law_table : Cal P w K mg base 2 "_law_table" ["_law_d", "_law_b", "_law_unit"] sp__law_table) (c__law_waits : Cal P w K mg base 3 "_law_waits" ["_law_d", "_law_g"] sp__law_waits) (c__law_rooms : Cal P w K mg base 2 "_law_rooms" ["_law_g", "_law_t"] sp__law_rooms) (c__law_same : Cal P w K mg base 4 "_law_same" ["_law_thing", "_law_due"] sp__law_same) (c_is_kept : Cal P w K mg base 5 "is_kept" ["table", "waits"] sp_is_kept) (c_room_table : Cal P w K mg base 4 "room_table" ["table", "waits"] sp_room_table) (c__law_pair : Cal P w K mg base 8 "_law_pair" ["_law_g", "_law_t", "_law_rooms_here", "_law_x", "_law_y", "_law_z", "_law_low"] sp__law_pair) (c__law_tight : Cal P w K mg base 6 "_law_tight" ["_law_g", "_law_t", "_law_rooms_here", "_law_door"] sp__law_tight) (c_is_bare : Cal P w K mg base 4 "is_bare" ["table", "waits"] sp_is_bare) (c__law_is_bare : Cal P w K mg base 2 "_law_is_bare" ["_law_g", "_law_t", "_law_rooms_here"] sp__law_is_bare) (c__law_costs : Cal P w K mg base 7 "_law_costs" ["_law_g", "_law_r", "_law_x", "_law_y"] sp__law_costs) (c__law_bared : Cal P w K mg base 6 "_law_bared" ["_law_g", "_law_t", "_law_first"] sp__law_bared) (c__law_all : Cal P w K mg base 7 "_law_all" ["_law_g", "_law_t", "_law_first"] sp__law_all) {f : Addr} {cdv : Value} {A : Around} {outer : List Env} {s : Shared} {H : Hp} {E : XK} (hr : Room 8 (A.deeper (envOfC "law" (defScope s_law) s.heap.objs.size f cdv))) :
    PSs (cxOf CX0 P w K mg base ["_law_script", "_law_d", "_law_unit", "_law_b", "_law_g", "_law_t", "_law_rooms_here", "_law_x", "_law_y", "_law_z", "_law_menu", "_law_k"] "law" (defScope s_law) f cdv A outer s H E).nox (defBody s_law) (t_law K sp__law_draws sp__law_take sp__law_table sp__law_waits sp__law_rooms sp__law_same sp_is_kept sp_room_table sp__law_pair sp__law_tight sp_is_bare sp__law_is_bare sp__law_costs sp__law_bared sp__law_all) := by
  have nd := sc_law.nd
  exact (pss_cons (ps_set (i := 1) nd rfl (Or.inr rfl) (pe_cal c__law_draws hr (by decide) (by rfl) (pa_cons (pv 0) pa_nil)))
      (pss_cons (ps_set (i := 2) nd rfl (Or.inl rfl) (pe_ix ix_seq (pe_tup (pa_cons pe_int (pa_cons pe_int (pa_cons pe_int (pa_cons pe_int (pa_cons pe_int (pa_cons pe_int (pa_cons pe_int (pa_cons pe_int pa_nil))))))))) (pe_cal c__law_take hr (by decide) (by rfl) (pa_cons (pv 1) (pa_cons pe_int pa_nil))) (fun _ _ => rfl)))
      (pss_cons (ps_set (i := 3) nd rfl (Or.inl rfl) (pe_ix ix_seq (pe_tup (pa_cons pe_int (pa_cons pe_int (pa_cons pe_int (pa_cons pe_int (pa_cons pe_int (pa_cons pe_int (pa_cons pe_int (pa_cons pe_int pa_nil))))))))) (pe_cal c__law_take hr (by decide) (by rfl) (pa_cons (pv 1) (pa_cons pe_int pa_nil))) (fun _ _ => rfl)))
      (pss_cons (ps_set (i := 4) nd rfl (Or.inl rfl) (pe_cal c__law_table hr (by decide) (by rfl) (pa_cons (pv 1) (pa_cons (pv 3) (pa_cons (pv 2) pa_nil)))))
      (pss_cons (ps_set (i := 5) nd rfl (Or.inl rfl) (pe_cal c__law_waits hr (by decide) (by rfl) (pa_cons (pv 1) (pa_cons (pv 4) pa_nil))))
      (pss_cons (ps_set (i := 6) nd rfl (Or.inl rfl) (pe_cal c__law_rooms hr (by decide) (by rfl) (pa_cons (pv 4) (pa_cons (pv 5) pa_nil))))
      (pss_cons (ps_if (PW.pt (pw_or (pt_not (pt_val (pe_cal c__law_same hr (by decide) (by rfl) (pa_cons (pe_cal c_is_kept hr (by decide) (by rfl) (pa_cons (pv 4) (pa_cons (pv 5) pa_nil))) (pa_cons pe_bl pa_nil))))) (pw_or1 (pt_not (pt_val (pe_cal c__law_same hr (by decide) (by rfl) (pa_cons (pe_cal c_room_table hr (by decide) (by rfl) (pa_cons (pv 4) (pa_cons (pv 5) pa_nil))) (pa_cons (pv 6) pa_nil)))))))) (pss_one (ps_ret pe_bl)) pss_nil)
      (pss_cons (ps_set (i := 7) nd rfl (Or.inl rfl) (pe_cal c__law_take hr (by decide) (by rfl) (pa_cons (pv 1) (pa_cons (pv 3) pa_nil))))
      (pss_cons (ps_set (i := 8) nd rfl (Or.inl rfl) (pe_op k_mod (pe_op k_add (pe_op k_add (pv 7) pe_int) (pe_cal c__law_take hr (by decide) (by rfl) (pa_cons (pv 1) (pa_cons (pe_op k_sub (pv 3) pe_int) pa_nil)))) (pv 3)))
      (pss_cons (ps_set (i := 9) nd rfl (Or.inl rfl) (pe_cal c__law_take hr (by decide) (by rfl) (pa_cons (pv 1) (pa_cons (pv 3) pa_nil))))
      (pss_cons (ps_if (pt_not (pt_val (pe_cal c__law_pair hr (by decide) (by rfl) (pa_cons (pv 4) (pa_cons (pv 5) (pa_cons (pv 6) (pa_cons (pv 7) (pa_cons (pv 8) (pa_cons (pv 9) (pa_cons (pe_op k_add pe_int (pe_cal c__law_take hr (by decide) (by rfl) (pa_cons (pv 1) (pa_cons pe_int pa_nil)))) pa_nil)))))))))) (pss_one (ps_ret pe_bl)) pss_nil)
      (pss_cons (ps_if (pt_not (pt_val (pe_cal c__law_tight hr (by decide) (by rfl) (pa_cons (pv 4) (pa_cons (pv 5) (pa_cons (pv 6) (pa_cons (pv 9) pa_nil))))))) (pss_one (ps_ret pe_bl)) pss_nil)
      (pss_cons (ps_if (pt_not (pt_val (pe_cal c__law_same hr (by decide) (by rfl) (pa_cons (pe_cal c_is_bare hr (by decide) (by rfl) (pa_cons (pv 4) (pa_cons (pv 5) pa_nil))) (pa_cons (pe_cal c__law_is_bare hr (by decide) (by rfl) (pa_cons (pv 4) (pa_cons (pv 5) (pa_cons (pv 6) pa_nil)))) pa_nil))))) (pss_one (ps_ret pe_bl)) pss_nil)
      (pss_cons (ps_set (i := 10) nd rfl (Or.inl rfl) (pe_cal c__law_take hr (by decide) (by rfl) (pa_cons (pv 1) (pa_cons pe_int pa_nil))))
      (pss_cons (ps_if (pt_cmpR op_eq (pv 10) pe_int (nomark _)) (pss_one (ps_ret (pe_cal c__law_costs hr (by decide) (by rfl) (pa_cons (pv 4) (pa_cons (pe_callTy k_tuple (by rfl) B.tuple_ (by decide +kernel) (pa_cons (pe_lc (own := [("_law_k", 11)]) rfl nd (pi_range1 (by rfl) B.range_ (pa_cons (pv 3) pa_nil)) (blkOk_by (own := [("_law_k", 11)]) (by kernel_rfl)) (fun _ _ _ _ _ => (pg_name (i := 11) nd rfl (Or.inl rfl))) (fun _ _ _ _ _ => pts_nil) (fun _ _ _ _ _ => (pe_cal c__law_take hr (by decide) (by rfl) (pa_cons (pv 1) (pa_cons pe_int pa_nil))))) pa_nil)) (pa_cons (pv 7) (pa_cons (pv 8) pa_nil))))))) pss_nil)
      (pss_cons (ps_if (PW.pt (pw_or (pt_cmpR op_eq (pv 10) pe_int (nomark _)) (pw_or1 (pt_cmpR k_gt (pv 3) pe_int (nomark _))))) (pss_one (ps_ret (pe_cal c__law_bared hr (by decide) (by rfl) (pa_cons (pv 4) (pa_cons (pv 5) (pa_cons (pv 9) pa_nil)))))) pss_nil)
      (pss_one (ps_ret (pe_cal c__law_all hr (by decide) (by rfl) (pa_cons (pv 4) (pa_cons (pv 5) (pa_cons (pe_cal c__law_take hr (by decide) (by rfl) (pa_cons (pv 1) (pa_cons (pe_op k_mul (pv 3) (pv 3)) pa_nil))) pa_nil))))))))))))))))))))))

section
variable {P : Program} {w : World} {K : PySem.W.Frag} {mg : Str → Option Value} {base : Heap}
/-! ### arguments that change the heap -/
def Aa (tr : TA) (σ : L2.St) (H : Hp) (P : List V → Hp → Prop) : Prop := ∀ Q : List V → Hp → Prop, (∀ vs H', P vs H' → Q vs H') → tr σ H Q
theorem aa_nil {σ : L2.St} {H : Hp} {Pa : List V → Hp → Prop} (h : Pa [] H) : Aa tNil σ H Pa := fun Q q => q [] H h
theorem aa_va {σ : L2.St} {H : Hp} {te : TE} {tr : TA} {v : V} {Pa : List V → Hp → Prop} (h : Va te σ H v) (k : Aa tr σ H (fun vs H' => Pa (v :: vs) H')) : Aa (tCons te tr) σ H Pa := fun Q q => h _ (k _ fun vs H' p => q _ _ p)
theorem aa_am {σ : L2.St} {H : Hp} {te : TE} {tr : TA} {P1 : V → Hp → Prop} {Pa : List V → Hp → Prop} (h : Am te σ H P1) (k : ∀ v H1, P1 v H1 → Aa tr σ H1 (fun vs H' => Pa (v :: vs) H')) : Aa (tCons te tr) σ H Pa := fun Q q => h _ fun v H1 p1 => k v H1 p1 _ fun vs H' p => q _ _ p
theorem am_call {σ : L2.St} {H : Hp} {sp : Sp} {tr : TA} {Pa : List V → Hp → Prop} {P2 : V → Hp → Prop} (h : Aa tr σ H Pa) (k : ∀ vs H1, Pa vs H1 → ∀ (Q : VK) (E : XK), (∀ v H2, P2 v H2 → Q v H2) → sp vs H1 Q E) : Am (tCall sp [] E0 tr) σ H P2 := fun Q q => h _ fun vs H1 p => by
  rw [List.append_nil]
  exact k vs H1 p Q _ q
theorem am_al {σ : L2.St} {H : Hp} {te : TE} {P2 : V → Hp → Prop} (h : Al te σ H P2) : Am te σ H (fun v H' => Same H H' ∧ P2 v H') := fun Q q => h _ fun v H' S p => q v H' ⟨S, p⟩
theorem st_retM {σ : L2.St} {H : Hp} {te : TE} {P1 : V → Hp → Prop} {D : Ends} (h : Am te σ H P1) (k : ∀ v H1, P1 v H1 → D.rt v H1) : tRet te D σ H := h _ k
/-- if not e: return False, e true and changing the heap -/
theorem q_ifNotM {σ : L2.St} {H : Hp} {te : TE} {Ph : Hp → Prop} {D : Ends} {tu tz : TS} (h : Am te σ H (fun v H' => v = .bl true ∧ Ph H')) (k : ∀ H', Ph H' → tz D σ H') : tSeq (tIfS (tNot (tB te)) tu tNext) tz D σ H := h _ fun v H' ⟨e, p⟩ => ⟨true, e, iteF (k H' p)⟩
/-- (c, ..)[take(d, n)] -/
theorem am_ixT {σ : L2.St} {H : Hp} {tr : TA} {te : TE} {vs : List V} {d : Addr} (h : Vs tr σ H vs) (hl : vs.length ≤ 100000) (hk : ∀ H1, Same H H1 → Am te σ H1 (Took H1 d (vs.length : Int))) : Am (tOp (rIx K) (tTup tr) te) σ H (fun v H' => v ∈ vs ∧ SX [d] H H' ∧ DL H' d) := fun Q q => by
  unfold tOp
  refine al_tup h hl _ fun u H1 S1 ⟨p, e, np, hp⟩ => ?_
  refine hk H1 S1 _ fun u2 H2 ⟨k, ek, k0, k1, S2, hd2⟩ => ?_
  subst e ek
  have hi : k.toNat < vs.length := by omega
  have e1 : vs[k.toNat]? = some vs[k.toNat] := List.getElem?_eq_getElem hi
  have e2 : ((k.toNat : Nat) : Int) = k := by omega
  refine vr_xT (v := vs[k.toNat]) (S2.t (SqT.of hp)) ?_ _ (q _ _ ⟨List.getElem_mem hi, (SX.of S1).trans S2, hd2⟩)
  have e3 := atI_nat e1
  rw [e2] at e3
  exact e3
theorem TKT.sx {H H' : Hp} {X : List Addr} {n : Nat} {a b : Addr} {g : Gr} {t : Nat → Int} (h : TKT K H n a b g t) (S : SX X H H') : TKT K H' n a b g t := ⟨S.tt h.tab, S.t h.wai, h.one, h.le, h.kept, h.nn, h.dg⟩
theorem ints_of {zs : List V} {n : Nat} (hl : zs.length = n) (hg : ∀ z, z ∈ zs → ∃ k : Int, z = .int k ∧ 0 ≤ k ∧ k < 7) : ∃ r : Nat → Int, zs = tabI n r ∧ ∀ i, i < n → 0 ≤ r i ∧ r i < 7 := by
  have sk : ∀ i, ∃ k : Int, i < n → zs.getD i .non = .int k ∧ 0 ≤ k ∧ k < 7 := fun i => by
    by_cases hi : i < n
    · obtain ⟨k, e, k0⟩ := hg (zs.getD i .non) (by rw [List.getD, List.getElem?_eq_getElem (by omega)]; exact List.getElem_mem (by omega))
      exact ⟨k, fun _ => ⟨e, k0⟩⟩
    · exact ⟨0, fun h => absurd h hi⟩
  obtain ⟨r, hr⟩ := Classical.skolem.mp sk
  refine ⟨r, ?_, fun i hi => (hr i hi).2⟩
  rw [list_tab zs, hl]
  exact tab_congr fun i hi => (hr i hi).1
def spLaw (K : PySem.W.Frag) : Sp := fun vs H Q _ => ∃ (a : Addr) (ns : List Int), vs = [.ref a] ∧ SqL K H a (ns.map V.int) ∧ ns.length ≤ 63 ∧ ∀ H', Q (.bl true) H'
set_option maxHeartbeats 1000000 in
theorem rd_law {vs : List V} {H : Hp} {Q : VK} {E : XK} (h : spLaw K vs H Q E) : t_law K (spDraws K) spTake (spTable K) (spWaits K) (spRooms K) (spSame K 3) (spIsKept K) (spRoomTable K) (spPair K) (spTight K) (spIsBare K) (spLBare K) (spCosts K) (spBared K) (spAll K) { nx := fun _ H' => Q .non H', rt := Q } (start ["_law_script", "_law_d", "_law_unit", "_law_b", "_law_g", "_law_t", "_law_rooms_here", "_law_x", "_law_y", "_law_z", "_law_menu", "_law_k"] vs) H := by
  obtain ⟨a, ns, rfl, hsq, hlen, q⟩ := h
  have hsq2 : SqL K H a (tabI ns.length fun i => ns.getD i 0) := by
    have e : tabI ns.length (fun i => ns.getD i 0) = ns.map V.int := (tab_ints (p := ns.length) (f := fun i => ns.getD i 0)).trans (congrArg (List.map V.int) (range_getD ns))
    rw [e]; exact hsq
  unfold t_law
  refine q_asgA (al_call (P := fun v H' => ∃ d, v = .ref d ∧ H d = none ∧ DL H' d) (vs_cons (va_var rfl) vs_nil) fun Q2 E2 r => ⟨ns.length, a, _, rfl, hsq2, by omega, r⟩) fun v H1 S1 ⟨d, ev, _, hd⟩ => ?_
  subst ev
  refine q_asgM (am_ixT (d := d) (vs := [.int 1, .int 1, .int 1, .int 1, .int 1, .int 300000000000000000000007, .int 1, .int 1]) (vs_cons va_c (vs_cons va_c (vs_cons va_c (vs_cons va_c (vs_cons va_c (vs_cons va_c (vs_cons va_c (vs_cons va_c vs_nil)))))))) (show 8 ≤ 100000 by decide) fun H2 S2 => am_take (b := 8) (hd.same S2) (va_var rfl) va_c (by decide)) fun v H2 ⟨hv, _, hd2⟩ => ?_
  have hu : ∃ u : Int, v = .int u ∧ 0 ≤ u ∧ u ≤ 300000000000000000000007 := by
    simp only [List.mem_cons, List.not_mem_nil, or_false] at hv
    rcases hv with e | e | e | e | e | e | e | e <;> exact ⟨_, e, by decide, by decide⟩
  obtain ⟨u, ev, hu0, hu1⟩ := hu
  subst ev
  clear hv
  refine q_asgM (am_ixT (d := d) (vs := [.int 3, .int 4, .int 2, .int 5, .int 4, .int 3, .int 8, .int 6]) (vs_cons va_c (vs_cons va_c (vs_cons va_c (vs_cons va_c (vs_cons va_c (vs_cons va_c (vs_cons va_c (vs_cons va_c vs_nil)))))))) (show 8 ≤ 100000 by decide) fun H3 S3 => am_take (b := 8) (hd2.same S3) (va_var rfl) va_c (by decide)) fun v H3 ⟨hv, _, hd3⟩ => ?_
  have hn : ∃ n : Nat, v = .int (n : Int) ∧ 2 ≤ n ∧ n ≤ 8 := by
    simp only [List.mem_cons, List.not_mem_nil, or_false] at hv
    rcases hv with e | e | e | e | e | e | e | e
    · exact ⟨3, e, by decide, by decide⟩
    · exact ⟨4, e, by decide, by decide⟩
    · exact ⟨2, e, by decide, by decide⟩
    · exact ⟨5, e, by decide, by decide⟩
    · exact ⟨4, e, by decide, by decide⟩
    · exact ⟨3, e, by decide, by decide⟩
    · exact ⟨8, e, by decide, by decide⟩
    · exact ⟨6, e, by decide, by decide⟩
  obtain ⟨n, ev, hn2, hn8⟩ := hn
  subst ev
  clear hv
  refine q_asgM (am_call (Pa := fun vs H' => vs = [.ref d, .int (n : Int), .int u] ∧ H' = H3) (P2 := fun v H4 => ∃ (ga : Addr) (g : Gr), v = .ref ga ∧ DL H4 d ∧ TR K H4 ga n n (oI g) ∧ (∀ i, i < n → g i i = some 0) ∧ ∀ i j, i < n → j < n → EB u (g i j)) (aa_va (va_var rfl) (aa_va (va_var rfl) (aa_va (va_var rfl) (aa_nil ⟨rfl, rfl⟩)))) fun vs H' ⟨e1, e2⟩ Q2 E2 r => ⟨n, d, u, e1, hu0, by omega, by rw [e2]; exact hd3, fun ga g H4 _ h2 h3 h4 h5 => r _ _ ⟨ga, g, rfl, h2, h3, h4, h5⟩⟩) fun v H4 ⟨ga, g, ev, hd4, hg, hdg, hbd⟩ => ?_
  subst ev
  refine q_asgM (am_call (Pa := fun vs H' => vs = [.ref d, .ref ga] ∧ H' = H4) (P2 := fun v H5 => ∃ (ba : Addr) (t : Nat → Int), v = .ref ba ∧ SX [d] H4 H5 ∧ DL H5 d ∧ SqT K H5 ba (tabI n t) ∧ Kept n g t ∧ NN n t) (aa_va (va_var rfl) (aa_va (va_var rfl) (aa_nil ⟨rfl, rfl⟩))) fun vs H' ⟨e1, e2⟩ Q2 E2 r => ⟨n, d, ga, g, e1, by omega, by omega, by rw [e2]; exact hd4, by rw [e2]; exact hg, fun ba t H5 h1 h2 h3 h4 h5 => r _ _ ⟨ba, t, rfl, by rw [← e2]; exact h1, h2, h3, h4, h5⟩⟩) fun v H5 ⟨ba, t, ev, S5, hd5, hb, hk, h0⟩ => ?_
  subst ev
  have hT5 : TKT K H5 n ga ba g t := ⟨S5.tt hg, hb, by omega, by omega, hk, h0, hdg⟩
  refine q_asgA (al_rooms hT5.tk (va_var rfl) (va_var rfl)) fun v H6 S6 ⟨ro, ev, hro⟩ => ?_
  subst ev
  have hT6 := hT5.mono S6
  refine q_ifFAn (at_orF (at_same (al_isKept hT6.tw h0 (va_var rfl) (va_var rfl)) fun v H7 S7 p => IsB.same (H := H7) p hk) fun H7 S7 => at_same (al_roomTable (hT6.mono S7) (va_var rfl) (va_var rfl)) fun v H8 S8 ⟨rt, ev, hrt⟩ => ⟨.ref ro, va_var rfl, by rw [ev]; exact sameTR hrt ((S7.trans S8).tt hro) (by omega)⟩) fun H7 S7 => ?_
  have hT7 := hT6.mono S7
  have hro7 := S7.tt hro
  refine q_asgM (am_take (b := (n : Int)) (hd5.same (S6.trans S7)) (va_var rfl) (va_var rfl) (by omega)) fun v H8 ⟨xi, ev, x0, x1, S8, hd8⟩ => ?_
  obtain ⟨x, rfl⟩ : ∃ x : Nat, xi = (x : Int) := ⟨xi.toNat, by omega⟩
  subst ev
  have hx : x < n := by omega
  refine q_asgM (am_op (P2 := fun v H9 => ∃ y : Nat, v = .int (y : Int) ∧ y < n ∧ y ≠ x ∧ SX [d] H8 H9 ∧ DL H9 d) (am_opR (P2 := fun v H9 => ∃ k : Int, v = .int ((x : Int) + 1 + k) ∧ 0 ≤ k ∧ k < (n : Int) - 1 ∧ SX [d] H8 H9 ∧ DL H9 d) (va_op (va_var (v := .int (x : Int)) rfl) va_c vr_add) (am_take (b := (n : Int) - 1) hd8 (va_var rfl) (va_op (va_var (v := .int (n : Int)) rfl) va_c vr_sub) (by omega)) fun v H9 ⟨k, ev, k0, k1, S9, hd9⟩ => ⟨.int ((x : Int) + 1 + k), by rw [ev]; exact vr_add, k, rfl, k0, k1, S9, hd9⟩) fun v H9 ⟨k, ev, k0, k1, S9, hd9⟩ => ⟨.int (n : Int), .int (((x : Int) + 1 + k) % (n : Int)), va_var rfl, by rw [ev]; exact vr_mod (by omega), ?_⟩) fun v H9 ⟨y, ev, hy, ne, S9, hd9⟩ => ?_
  · have m0 := Int.emod_nonneg ((x : Int) + 1 + k) (show (n : Int) ≠ 0 by omega)
    have m1 := Int.emod_lt_of_pos ((x : Int) + 1 + k) (show (0 : Int) < (n : Int) by omega)
    refine ⟨(((x : Int) + 1 + k) % (n : Int)).toNat, by rw [Int.toNat_of_nonneg m0], by omega, fun z => ?_, S9, hd9⟩
    have z2 : ((x : Int) + 1 + k) % (n : Int) = (x : Int) := by omega
    by_cases c : (x : Int) + 1 + k < (n : Int)
    · rw [Int.emod_eq_of_lt (by omega) c] at z2; omega
    · have e : ((x : Int) + 1 + k) % (n : Int) = ((x : Int) + 1 + k - (n : Int)) % (n : Int) := (Int.sub_emod_right _ _).symm
      rw [e, Int.emod_eq_of_lt (by omega) (by omega)] at z2
      omega
  subst ev
  refine q_asgM (am_take (b := (n : Int)) hd9 (va_var rfl) (va_var rfl) (by omega)) fun v H10 ⟨zi, ev, z0, z1, S10, hd10⟩ => ?_
  obtain ⟨z, rfl⟩ : ∃ z : Nat, zi = (z : Int) := ⟨zi.toNat, by omega⟩
  subst ev
  have hz : z < n := by omega
  have S7_10 := (S8.trans S9).trans S10
  have hT10 := hT7.sx S7_10
  have hro10 := S7_10.tt hro7
  refine q_ifNotM (Ph := fun H12 => ∃ H11, SX [d] H10 H11 ∧ DL H11 d ∧ Same H11 H12) (am_call (Pa := fun vs H11 => ∃ lo : Int, vs = [.ref ga, .ref ba, .ref ro, .int (x : Int), .int (y : Int), .int (z : Int), .int lo] ∧ 0 ≤ lo ∧ SX [d] H10 H11 ∧ DL H11 d) (aa_va (va_var rfl) (aa_va (va_var rfl) (aa_va (va_var rfl) (aa_va (va_var rfl) (aa_va (va_var rfl) (aa_va (va_var rfl) (aa_am (am_opR (P2 := fun v H11 => ∃ lo : Int, v = .int lo ∧ 0 ≤ lo ∧ SX [d] H10 H11 ∧ DL H11 d) (va_c (v := .int 1)) (am_take (b := 9) hd10 (va_var rfl) va_c (by decide)) fun v H11 ⟨k, ev, k0, _, S11, hd11⟩ => ⟨.int (1 + k), by rw [ev]; exact vr_add, 1 + k, rfl, by omega, S11, hd11⟩) fun v H11 ⟨lo, ev, l0, S11, hd11⟩ => aa_nil ⟨lo, by rw [ev], l0, S11, hd11⟩))))))) fun vs H11 ⟨lo, evs, l0, S11, hd11⟩ Q2 E2 r => ⟨n, ga, ba, ro, g, t, x, y, z, lo, evs, hT10.sx S11, S11.tt hro10, hx, hy, ne, hz, l0, fun v H12 S12 e => r v H12 ⟨e, H11, S11, hd11, S12⟩⟩) fun H12 ⟨H11, S11, hd11, S12⟩ => ?_
  have hT12 := (hT10.sx S11).mono S12
  have hro12 := S12.tt (S11.tt hro10)
  have hd12 := hd11.same S12
  refine q_ifFAn (at_is (at_not (at_B (b := true) (al_call (P := fun v _ => v = .bl true) (vs_cons (va_var rfl) (vs_cons (va_var rfl) (vs_cons (va_var rfl) (vs_cons (va_var rfl) vs_nil)))) fun Q2 E2 r => ⟨n, ga, ba, ro, g, t, z, rfl, hT12.tkr hro12, hz, r⟩))) rfl) fun H13 S13 => ?_
  have hT13 := hT12.mono S13
  have hro13 := S13.tt hro12
  refine q_ifFAn (at_is (at_not (at_B (b := true) (al_callA (Pa := fun vs H14 => ∃ v1 v2, vs = [v1, v2] ∧ IsB (Bare n g t) v1 H14 ∧ IsB (Bare n g t) v2 H14) (P := fun v _ => v = .bl true) (ac_cons (Pr := fun _ _ => True) (al_isBare hT13.tw h0 (va_var rfl) (va_var rfl)) fun v1 H14 S14 p1 => ac_cons (Pr := fun _ _ => True) (al_call (P := IsB (Bare n g t)) (vs_cons (va_var rfl) (vs_cons (va_var rfl) (vs_cons (va_var rfl) vs_nil))) fun Q2 E2 r => ⟨n, ga, ba, ro, g, t, rfl, (hT13.tkr hro13).mono S14, r⟩) fun v2 H15 S15 p2 => fun Q9 q9 => q9 [] H15 (Same.refl _) ⟨v1, v2, rfl, p1, p2⟩) fun vs H15 S15 ⟨v1, v2, evs, ⟨c1, e1, i1⟩, ⟨c2, e2, i2⟩⟩ Q2 E2 r => ⟨v1, v2, evs, ?_, r⟩))) rfl) fun H14 S14 => ?_
  · subst e1 e2
    have : c1 = c2 := by
      cases c1 <;> cases c2
      · rfl
      · exact absurd (i1.mpr (i2.mp rfl)) (by simp)
      · exact absurd (i2.mpr (i1.mp rfl)) (by simp)
      · rfl
    subst this
    exact .bl c1
  have hT14 := hT13.mono S14
  have hd14 := hd12.same (S13.trans S14)
  refine q_asgM (am_take (b := 3) hd14 (va_var rfl) va_c (by decide)) fun v H15 ⟨me, ev, _, _, S15, hd15⟩ => ?_
  subst ev
  have hT15 := hT14.sx S15
  refine q_ifn (b := decide (me = 0)) (vt_test (va_op (va_var (v := .int me) rfl) va_c vr_eqI)) (fun _ => ?_) (fun _ => ?_)
  · refine st_retM (P1 := fun v _ => v = .bl true) (am_call (Pa := fun vs H16 => ∃ (ra : Addr) (r : Nat → Int), vs = [.ref ga, .ref ra, .int (x : Int), .int (y : Int)] ∧ TKT K H16 n ga ba g t ∧ SqT K H16 ra (tabI n r) ∧ ∀ i, i < n → 0 ≤ r i ∧ r i < 7) (aa_va (va_var rfl) (aa_am (P1 := fun v H16 => ∃ (ra : Addr) (r : Nat → Int), v = .ref ra ∧ TKT K H16 n ga ba g t ∧ SqT K H16 ra (tabI n r) ∧ ∀ i, i < n → 0 ≤ r i ∧ r i < 7) ?_ fun v H16 ⟨ra, r, ev, h1, h2, h3⟩ => aa_va (va_var rfl) (aa_va (va_var rfl) (aa_nil ⟨ra, r, by rw [ev], h1, h2, h3⟩)))) fun vs H16 ⟨ra, r, evs, h1, h2, h3⟩ Q2 E2 rr => ⟨n, ga, ra, g, r, x, y, evs, ⟨h1.tab, ⟨h2, fun i hi => (h3 i hi).1, fun i hi => by have := (h3 i hi).2; omega, by omega⟩, hdg⟩, by omega, by omega, hx, hy, ne, fun i j e hi hj he => ?_, fun v H17 _ e => rr v H17 e⟩) fun v H17 e => by rw [e]; exact q H17
    · intro Q3 q3
      unfold tCB
      refine am_lcR (d := d) (Good := fun z => ∃ k : Int, z = .int k ∧ 0 ≤ k ∧ k < 7) (n := n) (vs_cons (va_var rfl) vs_nil) (by omega) hd15 (fun _ => rfl) (fun i H16 _ hd16 => am_imp (am_take (b := 7) hd16 (va_var rfl) va_c (by decide)) fun v H17 ⟨k, ev, k0, k1, S17, hd17⟩ => ⟨S17, hd17, k, ev, k0, k1⟩) _ fun v H16 ⟨p, zs, ev, np, hp, hl, hg', S16, hd16⟩ => ?_
      subst ev
      obtain ⟨r, er, hr0⟩ := ints_of hl hg'
      refine ⟨p, zs, rfl, .inl ⟨SqL.of hp, fun l hl' => q3 _ _ ⟨l, r, rfl, (hT15.sx S16).mono (same_new hl'), SqT.of (by rw [upd_same, er]), hr0⟩⟩⟩
    · have := (hbd i j hi hj e he).2
      omega
  refine q_ifn (b := decide (me = 1) || decide (4 < (n : Int))) (vt_or (vt_test (va_op (va_var (v := .int me) rfl) va_c vr_eqI)) fun _ => vt_test (va_op (va_var (v := .int (n : Int)) rfl) va_c vr_gt)) (fun _ => ?_) (fun _ => ?_)
  · exact st_retA (al_call (P := fun v _ => v = .bl true) (vs_cons (va_var rfl) (vs_cons (va_var rfl) (vs_cons (va_var rfl) vs_nil))) fun Q2 E2 r => ⟨n, ga, ba, g, t, z, rfl, hT15, r⟩) fun v H16 _ e => by rw [e]; exact q H16
  · have hnn : (0 : Int) < (n : Int) * (n : Int) := Int.mul_pos (by omega) (by omega)
    refine st_retM (P1 := fun v _ => v = .bl true) (am_call (Pa := fun vs H16 => ∃ fi : Int, vs = [.ref ga, .ref ba, .int fi] ∧ SX [d] H15 H16) (aa_va (va_var rfl) (aa_va (va_var rfl) (aa_am (am_take (b := (n : Int) * (n : Int)) hd15 (va_var rfl) (va_op (va_var (v := .int (n : Int)) rfl) (va_var (v := .int (n : Int)) rfl) (vr_mul (.inl ⟨by omega, by omega⟩))) hnn) fun v H16 ⟨fi, ev, _, _, S16, _⟩ => aa_nil ⟨fi, by rw [ev], S16⟩))) fun vs H16 ⟨fi, evs, S16⟩ Q2 E2 rr => ⟨n, ga, ba, g, t, fi, evs, hT15.sx S16, hn2, fun v H17 _ e => rr v H17 e⟩) fun v H17 e => by rw [e]; exact q H17
theorem ok_law (T : Txt K mg) {C fI f : Addr} {fd : FuncData} (X : ExnT K mg C fI) (F : Fun K "law" "law" s_law f fd) : FnOk P w K mg base CX0 9 f fd ["_law_script"] (spLaw K) :=
  F.ok sc_law (fun vs H Q E h => by obtain ⟨a, ns, rfl, _⟩ := h; rfl) (fun cdv A outer s H vs Q E hr h => ⟨_, d_law T.B (cal__law_draws T) (cal__law_take T) (cal__law_table T) (cal__law_waits T) (cal__law_rooms T) (cal__law_same T 3) (cal_is_kept T) (cal_room_table T) (cal__law_pair T X) (cal__law_tight T) (cal_is_bare T) (cal__law_is_bare T) (cal__law_costs T) (cal__law_bared T) (cal__law_all T) hr, rd_law h⟩)
end
end K45
set_option Elab.async false
set_option linter.all false
set_option maxRecDepth 100000
set_option maxHeartbeats 200000
namespace K45
open PySem PySem.Spec PyProof.Rows L2
section
open PySem.W
variable {K : PySem.W.Frag} {h : Heap} {mg : Str → Option Value}
theorem std_mk {x : Str} {st : Stmt} {ps : List Str} {f : Addr} {od an : Option Addr} {osl : Array (Option Value)} {oc kV dc pm cd ct : Value} (X : K.In h) (G : h.Ns mainGlobals mg) (a : PySem.W.nsIn K mainGlobals x = some (some (.ref f)))
    (l : K.lookup f = some ⟨oc, od, .func (PySem.W.fnOf x x (defArgs st) (defBody st) (defScope st) .none kV dc pm an cd ct), osl⟩) (c : PySem.W.codeIn K cd x = true) (k : PySem.W.keepIn K (.ref f) = true)
    (b : ∀ (kV doc pm : Value) (an : Option Addr) (cdv ct : Value) (us : List Value), us.length = ps.length → bindArgs (PySem.W.fnOf x x (defArgs st) (defBody st) (defScope st) .none kV doc pm an cdv ct) ⟨us, []⟩ = pure (ps.zip us)) : Std K mg x st ps :=
  ⟨f, _, fun_mk l c k, PySem.W.mg_of X G a, (fun_mk l c k).binds b⟩
/-- an error of the class at S is what «except S» names -/
theorem exm_one {S : Addr} (h1 : PySem.W.subIn K (.ref S) (.type "BaseException") = some true) (h2 : PySem.W.isClsIn K S = true) (h3 : PySem.W.typeIn K (.ref S) = some (.type "type")) (h4 : PySem.W.subIn K (.ref S) (.ref S) = some true) : PySem.W.exmOne K (.ref S) (.ref S) = some true := by
  have e1 : (PySem.W.subIn K (.ref S) (.type "BaseException") == some true) = true := by rw [h1] <;> rfl
  have e2 : ((PySem.W.clsIn K S).isSome && PySem.W.typeIn K (.ref S) == some (.type "type")) = true := by
    have h5 : (PySem.W.clsIn K S).isSome = true := h2
    rw [h5, h3] <;> rfl
  unfold PySem.W.exmOne
  first
    | rw [if_pos e1, if_pos e2]; exact h4
    | (show (if (PySem.W.subIn K (.ref S) (.type "BaseException") == some true) = true then (if ((PySem.W.clsIn K S).isSome && PySem.W.typeIn K (.ref S) == some (.type "type")) = true then PySem.W.subIn K (.ref S) (.ref S) else none) else none) = some true
       rw [if_pos e1, if_pos e2]; exact h4)
theorem exn_mk {C fI : Addr} {nm q : Str} {N : Addr} {bs bm : List Value} {sn : List Str} {sub : List Value} {ab : Bool} {col : Option Bool} {dd : Option Addr} {m0 m1 m2 m3 m5 : Option Value} {od an : Option Addr} {osl : Array (Option Value)} {oc kV dc pm cd ct : Value} (X : K.In h) (G : h.Ns mainGlobals mg)
    (aC : PySem.W.nsIn K mainGlobals "Barred" = some (some (.ref C))) (xL : K.lookup C = some (excClassObj nm q C N bs bm true sn sub ab col dd m0 m1 m2 m3 m5 "ValueError.__new__")) (rv : PySem.HandSPX.refsVE bm = true)
    (sa : PySem.W.findIn K (.ref C) "__setattr__" = some (some (.builtin "object.__setattr__"))) (ga : PySem.W.findIn K (.ref C) "__getattribute__" = some (some (.builtin "BaseException.__getattribute__"))) (gg : PySem.W.findIn K (.ref C) "__getattr__" = some none) (nb : PySem.W.findIn K (.ref C) "ring" = some none)
    (a1 : PySem.W.findIn K (.ref C) "__init__" = some (some (.ref fI))) (t1 : PySem.W.typeIn K (.ref fI) = some (.type "function")) (kI : PySem.W.keepIn K (.ref fI) = true)
    (l1 : K.lookup fI = some ⟨oc, od, .func (PySem.W.fnOf "__init__" "Barred.__init__" (defArgs s_init) (defBody s_init) (defScope s_init) .none kV dc pm an cd ct), osl⟩) (c1 : PySem.W.codeIn K cd "Barred.__init__" = true)
    (kC : PySem.W.keepIn K (.ref C) = true) (eC : PySem.W.subIn K (.ref C) (.type "BaseException") = some true) (tC : PySem.W.typeIn K (.ref C) = some (.type "type")) (hC : PySem.W.hasDictIn K C = true) (iC : PySem.W.isClsIn K C = true) (sC : PySem.W.subIn K (.ref C) (.ref C) = some true) : ExnT K mg C fI :=
  { gC := PySem.W.mg_of X G aC, oex := ⟨⟨nm, q, N, bs, bm, sn, sub, ab, col, dd, m0, m1, m2, m3, m5, xL, rv⟩, sa, eC, tC, kC⟩, iC := a1, tI := t1, no := nb, xf := ⟨ga, gg, eC, hC⟩, te := exm_one eC iC tC sC,
    fn := ⟨_, fun_mk (st := s_init) l1 c1 kI, (fun_mk (st := s_init) l1 c1 kI).binds (ps := ["self", "ring"]) fun _ _ _ _ _ _ us hl => match us, hl with | [_, _], _ => rfl⟩ }
end
theorem b_is_integer : ∀ (kV doc pm : Value) (an : Option Addr) (cdv ct : Value) (us : List Value), us.length = (["thing"] : List Str).length → bindArgs (PySem.W.fnOf "is_integer" "is_integer" (defArgs (topS 6)) (defBody (topS 6)) (defScope (topS 6)) .none kV doc pm an cdv ct) ⟨us, []⟩ = pure ((["thing"] : List Str).zip us) := fun _ _ _ _ _ _ us hl => match us, hl with | [_], _ => rfl
theorem b_is_number : ∀ (kV doc pm : Value) (an : Option Addr) (cdv ct : Value) (us : List Value), us.length = (["thing"] : List Str).length → bindArgs (PySem.W.fnOf "is_number" "is_number" (defArgs (topS 7)) (defBody (topS 7)) (defScope (topS 7)) .none kV doc pm an cdv ct) ⟨us, []⟩ = pure ((["thing"] : List Str).zip us) := fun _ _ _ _ _ _ us hl => match us, hl with | [_], _ => rfl
theorem b_is_table_door : ∀ (kV doc pm : Value) (an : Option Addr) (cdv ct : Value) (us : List Value), us.length = (["size", "thing"] : List Str).length → bindArgs (PySem.W.fnOf "is_table_door" "is_table_door" (defArgs (topS 9)) (defBody (topS 9)) (defScope (topS 9)) .none kV doc pm an cdv ct) ⟨us, []⟩ = pure ((["size", "thing"] : List Str).zip us) := fun _ _ _ _ _ _ us hl => match us, hl with | [_, _], _ => rfl
theorem b_need_table_waits : ∀ (kV doc pm : Value) (an : Option Addr) (cdv ct : Value) (us : List Value), us.length = (["size", "waits"] : List Str).length → bindArgs (PySem.W.fnOf "need_table_waits" "need_table_waits" (defArgs (topS 10)) (defBody (topS 10)) (defScope (topS 10)) .none kV doc pm an cdv ct) ⟨us, []⟩ = pure ((["size", "waits"] : List Str).zip us) := fun _ _ _ _ _ _ us hl => match us, hl with | [_, _], _ => rfl
theorem b_need_table_grain : ∀ (kV doc pm : Value) (an : Option Addr) (cdv ct : Value) (us : List Value), us.length = (["grain"] : List Str).length → bindArgs (PySem.W.fnOf "need_table_grain" "need_table_grain" (defArgs (topS 11)) (defBody (topS 11)) (defScope (topS 11)) .none kV doc pm an cdv ct) ⟨us, []⟩ = pure ((["grain"] : List Str).zip us) := fun _ _ _ _ _ _ us hl => match us, hl with | [_], _ => rfl
theorem b_need_table_door : ∀ (kV doc pm : Value) (an : Option Addr) (cdv ct : Value) (us : List Value), us.length = (["size", "door"] : List Str).length → bindArgs (PySem.W.fnOf "need_table_door" "need_table_door" (defArgs (topS 12)) (defBody (topS 12)) (defScope (topS 12)) .none kV doc pm an cdv ct) ⟨us, []⟩ = pure ((["size", "door"] : List Str).zip us) := fun _ _ _ _ _ _ us hl => match us, hl with | [_, _], _ => rfl
theorem b_need_table_pair : ∀ (kV doc pm : Value) (an : Option Addr) (cdv ct : Value) (us : List Value), us.length = (["size", "door", "other"] : List Str).length → bindArgs (PySem.W.fnOf "need_table_pair" "need_table_pair" (defArgs (topS 13)) (defBody (topS 13)) (defScope (topS 13)) .none kV doc pm an cdv ct) ⟨us, []⟩ = pure ((["size", "door", "other"] : List Str).zip us) := fun _ _ _ _ _ _ us hl => match us, hl with | [_, _, _], _ => rfl
theorem b_step_gains : ∀ (kV doc pm : Value) (an : Option Addr) (cdv ct : Value) (us : List Value), us.length = (["table", "waits"] : List Str).length → bindArgs (PySem.W.fnOf "step_gains" "step_gains" (defArgs (topS 14)) (defBody (topS 14)) (defScope (topS 14)) .none kV doc pm an cdv ct) ⟨us, []⟩ = pure ((["table", "waits"] : List Str).zip us) := fun _ _ _ _ _ _ us hl => match us, hl with | [_, _], _ => rfl
theorem b_coarse_gains : ∀ (kV doc pm : Value) (an : Option Addr) (cdv ct : Value) (us : List Value), us.length = (["table", "grain", "waits"] : List Str).length → bindArgs (PySem.W.fnOf "coarse_gains" "coarse_gains" (defArgs (topS 15)) (defBody (topS 15)) (defScope (topS 15)) .none kV doc pm an cdv ct) ⟨us, []⟩ = pure ((["table", "grain", "waits"] : List Str).zip us) := fun _ _ _ _ _ _ us hl => match us, hl with | [_, _, _], _ => rfl
theorem b_greatest_sums : ∀ (kV doc pm : Value) (an : Option Addr) (cdv ct : Value) (us : List Value), us.length = (["gains"] : List Str).length → bindArgs (PySem.W.fnOf "greatest_sums" "greatest_sums" (defArgs (topS 16)) (defBody (topS 16)) (defScope (topS 16)) .none kV doc pm an cdv ct) ⟨us, []⟩ = pure ((["gains"] : List Str).zip us) := fun _ _ _ _ _ _ us hl => match us, hl with | [_], _ => rfl
theorem b_ring_behind : ∀ (kV doc pm : Value) (an : Option Addr) (cdv ct : Value) (us : List Value), us.length = (["before", "door"] : List Str).length → bindArgs (PySem.W.fnOf "ring_behind" "ring_behind" (defArgs (topS 17)) (defBody (topS 17)) (defScope (topS 17)) .none kV doc pm an cdv ct) ⟨us, []⟩ = pure ((["before", "door"] : List Str).zip us) := fun _ _ _ _ _ _ us hl => match us, hl with | [_, _], _ => rfl
theorem b_sums_to : ∀ (kV doc pm : Value) (an : Option Addr) (cdv ct : Value) (us : List Value), us.length = (["gains", "goal"] : List Str).length → bindArgs (PySem.W.fnOf "sums_to" "sums_to" (defArgs (topS 18)) (defBody (topS 18)) (defScope (topS 18)) .none kV doc pm an cdv ct) ⟨us, []⟩ = pure ((["gains", "goal"] : List Str).zip us) := fun _ _ _ _ _ _ us hl => match us, hl with | [_, _], _ => rfl
theorem b_gains_if_kept : ∀ (kV doc pm : Value) (an : Option Addr) (cdv ct : Value) (us : List Value), us.length = (["table", "waits"] : List Str).length → bindArgs (PySem.W.fnOf "gains_if_kept" "gains_if_kept" (defArgs (topS 19)) (defBody (topS 19)) (defScope (topS 19)) .none kV doc pm an cdv ct) ⟨us, []⟩ = pure ((["table", "waits"] : List Str).zip us) := fun _ _ _ _ _ _ us hl => match us, hl with | [_, _], _ => rfl
theorem b_room_by : ∀ (kV doc pm : Value) (an : Option Addr) (cdv ct : Value) (us : List Value), us.length = (["waits", "door", "reached"] : List Str).length → bindArgs (PySem.W.fnOf "room_by" "room_by" (defArgs (topS 21)) (defBody (topS 21)) (defScope (topS 21)) .none kV doc pm an cdv ct) ⟨us, []⟩ = pure ((["waits", "door", "reached"] : List Str).zip us) := fun _ _ _ _ _ _ us hl => match us, hl with | [_, _, _], _ => rfl
theorem b_room_of : ∀ (kV doc pm : Value) (an : Option Addr) (cdv ct : Value) (us : List Value), us.length = (["table", "waits", "door", "other"] : List Str).length → bindArgs (PySem.W.fnOf "room_of" "room_of" (defArgs (topS 22)) (defBody (topS 22)) (defScope (topS 22)) .none kV doc pm an cdv ct) ⟨us, []⟩ = pure ((["table", "waits", "door", "other"] : List Str).zip us) := fun _ _ _ _ _ _ us hl => match us, hl with | [_, _, _, _], _ => rfl
theorem b_room_row : ∀ (kV doc pm : Value) (an : Option Addr) (cdv ct : Value) (us : List Value), us.length = (["gains", "waits", "door"] : List Str).length → bindArgs (PySem.W.fnOf "room_row" "room_row" (defArgs (topS 23)) (defBody (topS 23)) (defScope (topS 23)) .none kV doc pm an cdv ct) ⟨us, []⟩ = pure ((["gains", "waits", "door"] : List Str).zip us) := fun _ _ _ _ _ _ us hl => match us, hl with | [_, _, _], _ => rfl
theorem b_room_table : ∀ (kV doc pm : Value) (an : Option Addr) (cdv ct : Value) (us : List Value), us.length = (["table", "waits"] : List Str).length → bindArgs (PySem.W.fnOf "room_table" "room_table" (defArgs (topS 24)) (defBody (topS 24)) (defScope (topS 24)) .none kV doc pm an cdv ct) ⟨us, []⟩ = pure ((["table", "waits"] : List Str).zip us) := fun _ _ _ _ _ _ us hl => match us, hl with | [_, _], _ => rfl
theorem b_tight_ring : ∀ (kV doc pm : Value) (an : Option Addr) (cdv ct : Value) (us : List Value), us.length = (["table", "waits", "door"] : List Str).length → bindArgs (PySem.W.fnOf "tight_ring" "tight_ring" (defArgs (topS 25)) (defBody (topS 25)) (defScope (topS 25)) .none kV doc pm an cdv ct) ⟨us, []⟩ = pure ((["table", "waits", "door"] : List Str).zip us) := fun _ _ _ _ _ _ us hl => match us, hl with | [_, _, _], _ => rfl
theorem b_ring_from : ∀ (kV doc pm : Value) (an : Option Addr) (cdv ct : Value) (us : List Value), us.length = (["door", "first", "following"] : List Str).length → bindArgs (PySem.W.fnOf "ring_from" "ring_from" (defArgs (topS 26)) (defBody (topS 26)) (defScope (topS 26)) .none kV doc pm an cdv ct) ⟨us, []⟩ = pure ((["door", "first", "following"] : List Str).zip us) := fun _ _ _ _ _ _ us hl => match us, hl with | [_, _, _], _ => rfl
theorem b_are_door_numbers : ∀ (kV doc pm : Value) (an : Option Addr) (cdv ct : Value) (us : List Value), us.length = (["size", "thing"] : List Str).length → bindArgs (PySem.W.fnOf "are_door_numbers" "are_door_numbers" (defArgs (topS 28)) (defBody (topS 28)) (defScope (topS 28)) .none kV doc pm an cdv ct) ⟨us, []⟩ = pure ((["size", "thing"] : List Str).zip us) := fun _ _ _ _ _ _ us hl => match us, hl with | [_, _], _ => rfl
theorem b_need_door_rates : ∀ (kV doc pm : Value) (an : Option Addr) (cdv ct : Value) (us : List Value), us.length = (["table", "rates"] : List Str).length → bindArgs (PySem.W.fnOf "need_door_rates" "need_door_rates" (defArgs (topS 29)) (defBody (topS 29)) (defScope (topS 29)) .none kV doc pm an cdv ct) ⟨us, []⟩ = pure ((["table", "rates"] : List Str).zip us) := fun _ _ _ _ _ _ us hl => match us, hl with | [_, _], _ => rfl
theorem b_net_forward : ∀ (kV doc pm : Value) (an : Option Addr) (cdv ct : Value) (us : List Value), us.length = (["entries", "rows", "columns", "came"] : List Str).length → bindArgs (PySem.W.fnOf "net_forward" "net_forward" (defArgs (topS 30)) (defBody (topS 30)) (defScope (topS 30)) .none kV doc pm an cdv ct) ⟨us, []⟩ = pure ((["entries", "rows", "columns", "came"] : List Str).zip us) := fun _ _ _ _ _ _ us hl => match us, hl with | [_, _, _, _], _ => rfl
theorem b_net_backward : ∀ (kV doc pm : Value) (an : Option Addr) (cdv ct : Value) (us : List Value), us.length = (["entries", "flows", "rows", "columns", "came"] : List Str).length → bindArgs (PySem.W.fnOf "net_backward" "net_backward" (defArgs (topS 31)) (defBody (topS 31)) (defScope (topS 31)) .none kV doc pm an cdv ct) ⟨us, []⟩ = pure ((["entries", "flows", "rows", "columns", "came"] : List Str).zip us) := fun _ _ _ _ _ _ us hl => match us, hl with | [_, _, _, _, _], _ => rfl
theorem b_net_walks : ∀ (kV doc pm : Value) (an : Option Addr) (cdv ct : Value) (us : List Value), us.length = (["entries", "flows", "rows", "columns"] : List Str).length → bindArgs (PySem.W.fnOf "net_walks" "net_walks" (defArgs (topS 32)) (defBody (topS 32)) (defScope (topS 32)) .none kV doc pm an cdv ct) ⟨us, []⟩ = pure ((["entries", "flows", "rows", "columns"] : List Str).zip us) := fun _ _ _ _ _ _ us hl => match us, hl with | [_, _, _, _], _ => rfl
theorem b_net_push : ∀ (kV doc pm : Value) (an : Option Addr) (cdv ct : Value) (us : List Value), us.length = (["entries", "flows", "wanted", "begin", "left"] : List Str).length → bindArgs (PySem.W.fnOf "net_push" "net_push" (defArgs (topS 33)) (defBody (topS 33)) (defScope (topS 33)) .none kV doc pm an cdv ct) ⟨us, []⟩ = pure ((["entries", "flows", "wanted", "begin", "left"] : List Str).zip us) := fun _ _ _ _ _ _ us hl => match us, hl with | [_, _, _, _, _], _ => rfl
theorem b_net_deal : ∀ (kV doc pm : Value) (an : Option Addr) (cdv ct : Value) (us : List Value), us.length = (["entries", "rates"] : List Str).length → bindArgs (PySem.W.fnOf "net_deal" "net_deal" (defArgs (topS 34)) (defBody (topS 34)) (defScope (topS 34)) .none kV doc pm an cdv ct) ⟨us, []⟩ = pure ((["entries", "rates"] : List Str).zip us) := fun _ _ _ _ _ _ us hl => match us, hl with | [_, _], _ => rfl
theorem b_net_worth : ∀ (kV doc pm : Value) (an : Option Addr) (cdv ct : Value) (us : List Value), us.length = (["entries", "flows"] : List Str).length → bindArgs (PySem.W.fnOf "net_worth" "net_worth" (defArgs (topS 35)) (defBody (topS 35)) (defScope (topS 35)) .none kV doc pm an cdv ct) ⟨us, []⟩ = pure ((["entries", "flows"] : List Str).zip us) := fun _ _ _ _ _ _ us hl => match us, hl with | [_, _], _ => rfl
theorem b_net_heights : ∀ (kV doc pm : Value) (an : Option Addr) (cdv ct : Value) (us : List Value), us.length = (["entries", "flows"] : List Str).length → bindArgs (PySem.W.fnOf "net_heights" "net_heights" (defArgs (topS 36)) (defBody (topS 36)) (defScope (topS 36)) .none kV doc pm an cdv ct) ⟨us, []⟩ = pure ((["entries", "flows"] : List Str).zip us) := fun _ _ _ _ _ _ us hl => match us, hl with | [_, _], _ => rfl
theorem b_deal_paper : ∀ (kV doc pm : Value) (an : Option Addr) (cdv ct : Value) (us : List Value), us.length = (["table", "rates"] : List Str).length → bindArgs (PySem.W.fnOf "deal_paper" "deal_paper" (defArgs (topS 38)) (defBody (topS 38)) (defScope (topS 38)) .none kV doc pm an cdv ct) ⟨us, []⟩ = pure ((["table", "rates"] : List Str).zip us) := fun _ _ _ _ _ _ us hl => match us, hl with | [_, _], _ => rfl
theorem b_cheapest_waits : ∀ (kV doc pm : Value) (an : Option Addr) (cdv ct : Value) (us : List Value), us.length = (["table", "rates"] : List Str).length → bindArgs (PySem.W.fnOf "cheapest_waits" "cheapest_waits" (defArgs (topS 39)) (defBody (topS 39)) (defScope (topS 39)) .none kV doc pm an cdv ct) ⟨us, []⟩ = pure ((["table", "rates"] : List Str).zip us) := fun _ _ _ _ _ _ us hl => match us, hl with | [_, _], _ => rfl
theorem b_bars_at : ∀ (kV doc pm : Value) (an : Option Addr) (cdv ct : Value) (us : List Value), us.length = (["table", "grain", "waits"] : List Str).length → bindArgs (PySem.W.fnOf "bars_at" "bars_at" (defArgs (topS 41)) (defBody (topS 41)) (defScope (topS 41)) .none kV doc pm an cdv ct) ⟨us, []⟩ = pure ((["table", "grain", "waits"] : List Str).zip us) := fun _ _ _ _ _ _ us hl => match us, hl with | [_, _, _], _ => rfl
theorem b_is_kept_at : ∀ (kV doc pm : Value) (an : Option Addr) (cdv ct : Value) (us : List Value), us.length = (["table", "grain", "waits"] : List Str).length → bindArgs (PySem.W.fnOf "is_kept_at" "is_kept_at" (defArgs (topS 42)) (defBody (topS 42)) (defScope (topS 42)) .none kV doc pm an cdv ct) ⟨us, []⟩ = pure ((["table", "grain", "waits"] : List Str).zip us) := fun _ _ _ _ _ _ us hl => match us, hl with | [_, _, _], _ => rfl
theorem b_least_barred : ∀ (kV doc pm : Value) (an : Option Addr) (cdv ct : Value) (us : List Value), us.length = (["table", "waits"] : List Str).length → bindArgs (PySem.W.fnOf "least_barred" "least_barred" (defArgs (topS 43)) (defBody (topS 43)) (defScope (topS 43)) .none kV doc pm an cdv ct) ⟨us, []⟩ = pure ((["table", "waits"] : List Str).zip us) := fun _ _ _ _ _ _ us hl => match us, hl with | [_, _], _ => rfl
theorem b_dearest_dealing : ∀ (kV doc pm : Value) (an : Option Addr) (cdv ct : Value) (us : List Value), us.length = (["table", "rates"] : List Str).length → bindArgs (PySem.W.fnOf "dearest_dealing" "dearest_dealing" (defArgs (topS 45)) (defBody (topS 45)) (defScope (topS 45)) .none kV doc pm an cdv ct) ⟨us, []⟩ = pure ((["table", "rates"] : List Str).zip us) := fun _ _ _ _ _ _ us hl => match us, hl with | [_, _], _ => rfl
theorem b_least_cost : ∀ (kV doc pm : Value) (an : Option Addr) (cdv ct : Value) (us : List Value), us.length = (["table", "rates"] : List Str).length → bindArgs (PySem.W.fnOf "least_cost" "least_cost" (defArgs (topS 46)) (defBody (topS 46)) (defScope (topS 46)) .none kV doc pm an cdv ct) ⟨us, []⟩ = pure ((["table", "rates"] : List Str).zip us) := fun _ _ _ _ _ _ us hl => match us, hl with | [_, _], _ => rfl
theorem b_barring_doors : ∀ (kV doc pm : Value) (an : Option Addr) (cdv ct : Value) (us : List Value), us.length = (["table", "waits"] : List Str).length → bindArgs (PySem.W.fnOf "barring_doors" "barring_doors" (defArgs (topS 48)) (defBody (topS 48)) (defScope (topS 48)) .none kV doc pm an cdv ct) ⟨us, []⟩ = pure ((["table", "waits"] : List Str).zip us) := fun _ _ _ _ _ _ us hl => match us, hl with | [_, _], _ => rfl
theorem b_is_kept : ∀ (kV doc pm : Value) (an : Option Addr) (cdv ct : Value) (us : List Value), us.length = (["table", "waits"] : List Str).length → bindArgs (PySem.W.fnOf "is_kept" "is_kept" (defArgs (topS 49)) (defBody (topS 49)) (defScope (topS 49)) .none kV doc pm an cdv ct) ⟨us, []⟩ = pure ((["table", "waits"] : List Str).zip us) := fun _ _ _ _ _ _ us hl => match us, hl with | [_, _], _ => rfl
theorem b_needed_wait : ∀ (kV doc pm : Value) (an : Option Addr) (cdv ct : Value) (us : List Value), us.length = (["table", "waits", "door"] : List Str).length → bindArgs (PySem.W.fnOf "needed_wait" "needed_wait" (defArgs (topS 51)) (defBody (topS 51)) (defScope (topS 51)) .none kV doc pm an cdv ct) ⟨us, []⟩ = pure ((["table", "waits", "door"] : List Str).zip us) := fun _ _ _ _ _ _ us hl => match us, hl with | [_, _, _], _ => rfl
theorem b_others_barred : ∀ (kV doc pm : Value) (an : Option Addr) (cdv ct : Value) (us : List Value), us.length = (["table", "waits", "door"] : List Str).length → bindArgs (PySem.W.fnOf "others_barred" "others_barred" (defArgs (topS 52)) (defBody (topS 52)) (defScope (topS 52)) .none kV doc pm an cdv ct) ⟨us, []⟩ = pure ((["table", "waits", "door"] : List Str).zip us) := fun _ _ _ _ _ _ us hl => match us, hl with | [_, _, _], _ => rfl
theorem b_least_wait : ∀ (kV doc pm : Value) (an : Option Addr) (cdv ct : Value) (us : List Value), us.length = (["table", "waits", "door"] : List Str).length → bindArgs (PySem.W.fnOf "least_wait" "least_wait" (defArgs (topS 53)) (defBody (topS 53)) (defScope (topS 53)) .none kV doc pm an cdv ct) ⟨us, []⟩ = pure ((["table", "waits", "door"] : List Str).zip us) := fun _ _ _ _ _ _ us hl => match us, hl with | [_, _, _], _ => rfl
theorem b_is_bare : ∀ (kV doc pm : Value) (an : Option Addr) (cdv ct : Value) (us : List Value), us.length = (["table", "waits"] : List Str).length → bindArgs (PySem.W.fnOf "is_bare" "is_bare" (defArgs (topS 54)) (defBody (topS 54)) (defScope (topS 54)) .none kV doc pm an cdv ct) ⟨us, []⟩ = pure ((["table", "waits"] : List Str).zip us) := fun _ _ _ _ _ _ us hl => match us, hl with | [_, _], _ => rfl
theorem b__law_draws : ∀ (kV doc pm : Value) (an : Option Addr) (cdv ct : Value) (us : List Value), us.length = (["_law_script"] : List Str).length → bindArgs (PySem.W.fnOf "_law_draws" "_law_draws" (defArgs (topS 56)) (defBody (topS 56)) (defScope (topS 56)) .none kV doc pm an cdv ct) ⟨us, []⟩ = pure ((["_law_script"] : List Str).zip us) := fun _ _ _ _ _ _ us hl => match us, hl with | [_], _ => rfl
theorem b__law_take : ∀ (kV doc pm : Value) (an : Option Addr) (cdv ct : Value) (us : List Value), us.length = (["_law_d", "_law_b"] : List Str).length → bindArgs (PySem.W.fnOf "_law_take" "_law_take" (defArgs (topS 57)) (defBody (topS 57)) (defScope (topS 57)) .none kV doc pm an cdv ct) ⟨us, []⟩ = pure ((["_law_d", "_law_b"] : List Str).zip us) := fun _ _ _ _ _ _ us hl => match us, hl with | [_, _], _ => rfl
theorem b__law_same : ∀ (kV doc pm : Value) (an : Option Addr) (cdv ct : Value) (us : List Value), us.length = (["_law_thing", "_law_due"] : List Str).length → bindArgs (PySem.W.fnOf "_law_same" "_law_same" (defArgs (topS 58)) (defBody (topS 58)) (defScope (topS 58)) .none kV doc pm an cdv ct) ⟨us, []⟩ = pure ((["_law_thing", "_law_due"] : List Str).zip us) := fun _ _ _ _ _ _ us hl => match us, hl with | [_, _], _ => rfl
theorem b__law_ints : ∀ (kV doc pm : Value) (an : Option Addr) (cdv ct : Value) (us : List Value), us.length = (["_law_thing", "_law_b"] : List Str).length → bindArgs (PySem.W.fnOf "_law_ints" "_law_ints" (defArgs (topS 59)) (defBody (topS 59)) (defScope (topS 59)) .none kV doc pm an cdv ct) ⟨us, []⟩ = pure ((["_law_thing", "_law_b"] : List Str).zip us) := fun _ _ _ _ _ _ us hl => match us, hl with | [_, _], _ => rfl
theorem b__law_table : ∀ (kV doc pm : Value) (an : Option Addr) (cdv ct : Value) (us : List Value), us.length = (["_law_d", "_law_b", "_law_unit"] : List Str).length → bindArgs (PySem.W.fnOf "_law_table" "_law_table" (defArgs (topS 60)) (defBody (topS 60)) (defScope (topS 60)) .none kV doc pm an cdv ct) ⟨us, []⟩ = pure ((["_law_d", "_law_b", "_law_unit"] : List Str).zip us) := fun _ _ _ _ _ _ us hl => match us, hl with | [_, _, _], _ => rfl
theorem b__law_walks : ∀ (kV doc pm : Value) (an : Option Addr) (cdv ct : Value) (us : List Value), us.length = (["_law_g", "_law_t", "_law_without"] : List Str).length → bindArgs (PySem.W.fnOf "_law_walks" "_law_walks" (defArgs (topS 61)) (defBody (topS 61)) (defScope (topS 61)) .none kV doc pm an cdv ct) ⟨us, []⟩ = pure ((["_law_g", "_law_t", "_law_without"] : List Str).zip us) := fun _ _ _ _ _ _ us hl => match us, hl with | [_, _, _], _ => rfl
theorem b__law_rooms : ∀ (kV doc pm : Value) (an : Option Addr) (cdv ct : Value) (us : List Value), us.length = (["_law_g", "_law_t"] : List Str).length → bindArgs (PySem.W.fnOf "_law_rooms" "_law_rooms" (defArgs (topS 62)) (defBody (topS 62)) (defScope (topS 62)) .none kV doc pm an cdv ct) ⟨us, []⟩ = pure ((["_law_g", "_law_t"] : List Str).zip us) := fun _ _ _ _ _ _ us hl => match us, hl with | [_, _], _ => rfl
theorem b__law_kept : ∀ (kV doc pm : Value) (an : Option Addr) (cdv ct : Value) (us : List Value), us.length = (["_law_g", "_law_t"] : List Str).length → bindArgs (PySem.W.fnOf "_law_kept" "_law_kept" (defArgs (topS 63)) (defBody (topS 63)) (defScope (topS 63)) .none kV doc pm an cdv ct) ⟨us, []⟩ = pure ((["_law_g", "_law_t"] : List Str).zip us) := fun _ _ _ _ _ _ us hl => match us, hl with | [_, _], _ => rfl
theorem b__law_lower : ∀ (kV doc pm : Value) (an : Option Addr) (cdv ct : Value) (us : List Value), us.length = (["_law_g", "_law_t", "_law_x"] : List Str).length → bindArgs (PySem.W.fnOf "_law_lower" "_law_lower" (defArgs (topS 64)) (defBody (topS 64)) (defScope (topS 64)) .none kV doc pm an cdv ct) ⟨us, []⟩ = pure ((["_law_g", "_law_t", "_law_x"] : List Str).zip us) := fun _ _ _ _ _ _ us hl => match us, hl with | [_, _, _], _ => rfl
theorem b__law_waits : ∀ (kV doc pm : Value) (an : Option Addr) (cdv ct : Value) (us : List Value), us.length = (["_law_d", "_law_g"] : List Str).length → bindArgs (PySem.W.fnOf "_law_waits" "_law_waits" (defArgs (topS 65)) (defBody (topS 65)) (defScope (topS 65)) .none kV doc pm an cdv ct) ⟨us, []⟩ = pure ((["_law_d", "_law_g"] : List Str).zip us) := fun _ _ _ _ _ _ us hl => match us, hl with | [_, _], _ => rfl
theorem b__law_put : ∀ (kV doc pm : Value) (an : Option Addr) (cdv ct : Value) (us : List Value), us.length = (["_law_g", "_law_x", "_law_y", "_law_entry"] : List Str).length → bindArgs (PySem.W.fnOf "_law_put" "_law_put" (defArgs (topS 66)) (defBody (topS 66)) (defScope (topS 66)) .none kV doc pm an cdv ct) ⟨us, []⟩ = pure ((["_law_g", "_law_x", "_law_y", "_law_entry"] : List Str).zip us) := fun _ _ _ _ _ _ us hl => match us, hl with | [_, _, _, _], _ => rfl
theorem b__law_ring : ∀ (kV doc pm : Value) (an : Option Addr) (cdv ct : Value) (us : List Value), us.length = (["_law_g", "_law_i"] : List Str).length → bindArgs (PySem.W.fnOf "_law_ring" "_law_ring" (defArgs (topS 67)) (defBody (topS 67)) (defScope (topS 67)) .none kV doc pm an cdv ct) ⟨us, []⟩ = pure ((["_law_g", "_law_i"] : List Str).zip us) := fun _ _ _ _ _ _ us hl => match us, hl with | [_, _], _ => rfl
theorem b__law_loose : ∀ (kV doc pm : Value) (an : Option Addr) (cdv ct : Value) (us : List Value), us.length = (["_law_row", "_law_rests"] : List Str).length → bindArgs (PySem.W.fnOf "_law_loose" "_law_loose" (defArgs (topS 68)) (defBody (topS 68)) (defScope (topS 68)) .none kV doc pm an cdv ct) ⟨us, []⟩ = pure ((["_law_row", "_law_rests"] : List Str).zip us) := fun _ _ _ _ _ _ us hl => match us, hl with | [_, _], _ => rfl
theorem b__law_tight : ∀ (kV doc pm : Value) (an : Option Addr) (cdv ct : Value) (us : List Value), us.length = (["_law_g", "_law_t", "_law_rooms_here", "_law_door"] : List Str).length → bindArgs (PySem.W.fnOf "_law_tight" "_law_tight" (defArgs (topS 69)) (defBody (topS 69)) (defScope (topS 69)) .none kV doc pm an cdv ct) ⟨us, []⟩ = pure ((["_law_g", "_law_t", "_law_rooms_here", "_law_door"] : List Str).zip us) := fun _ _ _ _ _ _ us hl => match us, hl with | [_, _, _, _], _ => rfl
theorem b__law_bars : ∀ (kV doc pm : Value) (an : Option Addr) (cdv ct : Value) (us : List Value), us.length = (["_law_g", "_law_t", "_law_i", "_law_x", "_law_y"] : List Str).length → bindArgs (PySem.W.fnOf "_law_bars" "_law_bars" (defArgs (topS 70)) (defBody (topS 70)) (defScope (topS 70)) .none kV doc pm an cdv ct) ⟨us, []⟩ = pure ((["_law_g", "_law_t", "_law_i", "_law_x", "_law_y"] : List Str).zip us) := fun _ _ _ _ _ _ us hl => match us, hl with | [_, _, _, _, _], _ => rfl
theorem b__law_rest : ∀ (kV doc pm : Value) (an : Option Addr) (cdv ct : Value) (us : List Value), us.length = (["_law_g", "_law_t", "_law_x", "_law_y", "_law_z", "_law_room"] : List Str).length → bindArgs (PySem.W.fnOf "_law_rest" "_law_rest" (defArgs (topS 71)) (defBody (topS 71)) (defScope (topS 71)) .none kV doc pm an cdv ct) ⟨us, []⟩ = pure ((["_law_g", "_law_t", "_law_x", "_law_y", "_law_z", "_law_room"] : List Str).zip us) := fun _ _ _ _ _ _ us hl => match us, hl with | [_, _, _, _, _, _], _ => rfl
theorem b__law_over : ∀ (kV doc pm : Value) (an : Option Addr) (cdv ct : Value) (us : List Value), us.length = (["_law_g", "_law_t", "_law_x", "_law_y", "_law_z", "_law_room", "_law_steps"] : List Str).length → bindArgs (PySem.W.fnOf "_law_over" "_law_over" (defArgs (topS 72)) (defBody (topS 72)) (defScope (topS 72)) .none kV doc pm an cdv ct) ⟨us, []⟩ = pure ((["_law_g", "_law_t", "_law_x", "_law_y", "_law_z", "_law_room", "_law_steps"] : List Str).zip us) := fun _ _ _ _ _ _ us hl => match us, hl with | [_, _, _, _, _, _, _], _ => rfl
theorem b__law_pair : ∀ (kV doc pm : Value) (an : Option Addr) (cdv ct : Value) (us : List Value), us.length = (["_law_g", "_law_t", "_law_rooms_here", "_law_x", "_law_y", "_law_z", "_law_low"] : List Str).length → bindArgs (PySem.W.fnOf "_law_pair" "_law_pair" (defArgs (topS 73)) (defBody (topS 73)) (defScope (topS 73)) .none kV doc pm an cdv ct) ⟨us, []⟩ = pure ((["_law_g", "_law_t", "_law_rooms_here", "_law_x", "_law_y", "_law_z", "_law_low"] : List Str).zip us) := fun _ _ _ _ _ _ us hl => match us, hl with | [_, _, _, _, _, _, _], _ => rfl
theorem b__law_worth : ∀ (kV doc pm : Value) (an : Option Addr) (cdv ct : Value) (us : List Value), us.length = (["_law_g", "_law_r", "_law_dealing"] : List Str).length → bindArgs (PySem.W.fnOf "_law_worth" "_law_worth" (defArgs (topS 74)) (defBody (topS 74)) (defScope (topS 74)) .none kV doc pm an cdv ct) ⟨us, []⟩ = pure ((["_law_g", "_law_r", "_law_dealing"] : List Str).zip us) := fun _ _ _ _ _ _ us hl => match us, hl with | [_, _, _], _ => rfl
theorem b__law_cost : ∀ (kV doc pm : Value) (an : Option Addr) (cdv ct : Value) (us : List Value), us.length = (["_law_g", "_law_r", "_law_t"] : List Str).length → bindArgs (PySem.W.fnOf "_law_cost" "_law_cost" (defArgs (topS 75)) (defBody (topS 75)) (defScope (topS 75)) .none kV doc pm an cdv ct) ⟨us, []⟩ = pure ((["_law_g", "_law_r", "_law_t"] : List Str).zip us) := fun _ _ _ _ _ _ us hl => match us, hl with | [_, _, _], _ => rfl
theorem b__law_costs : ∀ (kV doc pm : Value) (an : Option Addr) (cdv ct : Value) (us : List Value), us.length = (["_law_g", "_law_r", "_law_x", "_law_y"] : List Str).length → bindArgs (PySem.W.fnOf "_law_costs" "_law_costs" (defArgs (topS 76)) (defBody (topS 76)) (defScope (topS 76)) .none kV doc pm an cdv ct) ⟨us, []⟩ = pure ((["_law_g", "_law_r", "_law_x", "_law_y"] : List Str).zip us) := fun _ _ _ _ _ _ us hl => match us, hl with | [_, _, _, _], _ => rfl
theorem b__law_all : ∀ (kV doc pm : Value) (an : Option Addr) (cdv ct : Value) (us : List Value), us.length = (["_law_g", "_law_t", "_law_first"] : List Str).length → bindArgs (PySem.W.fnOf "_law_all" "_law_all" (defArgs (topS 77)) (defBody (topS 77)) (defScope (topS 77)) .none kV doc pm an cdv ct) ⟨us, []⟩ = pure ((["_law_g", "_law_t", "_law_first"] : List Str).zip us) := fun _ _ _ _ _ _ us hl => match us, hl with | [_, _, _], _ => rfl
theorem b__law_is_bare : ∀ (kV doc pm : Value) (an : Option Addr) (cdv ct : Value) (us : List Value), us.length = (["_law_g", "_law_t", "_law_rooms_here"] : List Str).length → bindArgs (PySem.W.fnOf "_law_is_bare" "_law_is_bare" (defArgs (topS 78)) (defBody (topS 78)) (defScope (topS 78)) .none kV doc pm an cdv ct) ⟨us, []⟩ = pure ((["_law_g", "_law_t", "_law_rooms_here"] : List Str).zip us) := fun _ _ _ _ _ _ us hl => match us, hl with | [_, _, _], _ => rfl
theorem b__law_bared : ∀ (kV doc pm : Value) (an : Option Addr) (cdv ct : Value) (us : List Value), us.length = (["_law_g", "_law_t", "_law_first"] : List Str).length → bindArgs (PySem.W.fnOf "_law_bared" "_law_bared" (defArgs (topS 79)) (defBody (topS 79)) (defScope (topS 79)) .none kV doc pm an cdv ct) ⟨us, []⟩ = pure ((["_law_g", "_law_t", "_law_first"] : List Str).zip us) := fun _ _ _ _ _ _ us hl => match us, hl with | [_, _, _], _ => rfl
theorem b_law : ∀ (kV doc pm : Value) (an : Option Addr) (cdv ct : Value) (us : List Value), us.length = (["_law_script"] : List Str).length → bindArgs (PySem.W.fnOf "law" "law" (defArgs (topS 80)) (defBody (topS 80)) (defScope (topS 80)) .none kV doc pm an cdv ct) ⟨us, []⟩ = pure ((["_law_script"] : List Str).zip us) := fun _ _ _ _ _ _ us hl => match us, hl with | [_], _ => rfl
theorem all_mk {l : PySem.W.OpenLaw} {w : World} {K : PySem.W.Frag} {h : Heap} {mg : Str → Option Value} {fa f : Addr} {od an : Option Addr} {osl : Array (Option Value)} {oc kV dc pm cd ct : Value} {C fI : Addr} (X : K.In h) (G : h.Ns mainGlobals mg) (hfa : mg "law" = some (.ref fa)) (E : ExnT K mg C fI)
    (aL : PySem.W.nsIn K mainGlobals "law" = some (some (.ref f))) (lL : K.lookup f = some ⟨oc, od, .func (PySem.W.fnOf "law" "law" (defArgs s_law) (defBody s_law) (defScope s_law) .none kV dc pm an cd ct), osl⟩) (cL : PySem.W.codeIn K cd "law" = true) (kL : PySem.W.keepIn K (.ref f) = true)
    (z_abs : PySem.W.nsIn K mainGlobals "abs" = some none)
    (z_all : PySem.W.nsIn K mainGlobals "all" = some none)
    (z_bool : PySem.W.nsIn K mainGlobals "bool" = some none)
    (z_enumerate : PySem.W.nsIn K mainGlobals "enumerate" = some none)
    (z_int : PySem.W.nsIn K mainGlobals "int" = some none)
    (z_isinstance : PySem.W.nsIn K mainGlobals "isinstance" = some none)
    (z_len : PySem.W.nsIn K mainGlobals "len" = some none)
    (z_list : PySem.W.nsIn K mainGlobals "list" = some none)
    (z_max : PySem.W.nsIn K mainGlobals "max" = some none)
    (z_min : PySem.W.nsIn K mainGlobals "min" = some none)
    (z_range : PySem.W.nsIn K mainGlobals "range" = some none)
    (z_set : PySem.W.nsIn K mainGlobals "set" = some none)
    (z_str : PySem.W.nsIn K mainGlobals "str" = some none)
    (z_sum : PySem.W.nsIn K mainGlobals "sum" = some none)
    (z_tuple : PySem.W.nsIn K mainGlobals "tuple" = some none)
    (z_zip : PySem.W.nsIn K mainGlobals "zip" = some none)
    (h_is_integer : Std K mg "is_integer" (topS 6) ["thing"])
    (h_is_number : Std K mg "is_number" (topS 7) ["thing"])
    (h_is_table_door : Std K mg "is_table_door" (topS 9) ["size", "thing"])
    (h_need_table_waits : Std K mg "need_table_waits" (topS 10) ["size", "waits"])
    (h_need_table_grain : Std K mg "need_table_grain" (topS 11) ["grain"])
    (h_need_table_door : Std K mg "need_table_door" (topS 12) ["size", "door"])
    (h_need_table_pair : Std K mg "need_table_pair" (topS 13) ["size", "door", "other"])
    (h_step_gains : Std K mg "step_gains" (topS 14) ["table", "waits"])
    (h_coarse_gains : Std K mg "coarse_gains" (topS 15) ["table", "grain", "waits"])
    (h_greatest_sums : Std K mg "greatest_sums" (topS 16) ["gains"])
    (h_ring_behind : Std K mg "ring_behind" (topS 17) ["before", "door"])
    (h_sums_to : Std K mg "sums_to" (topS 18) ["gains", "goal"])
    (h_gains_if_kept : Std K mg "gains_if_kept" (topS 19) ["table", "waits"])
    (h_room_by : Std K mg "room_by" (topS 21) ["waits", "door", "reached"])
    (h_room_of : Std K mg "room_of" (topS 22) ["table", "waits", "door", "other"])
    (h_room_row : Std K mg "room_row" (topS 23) ["gains", "waits", "door"])
    (h_room_table : Std K mg "room_table" (topS 24) ["table", "waits"])
    (h_tight_ring : Std K mg "tight_ring" (topS 25) ["table", "waits", "door"])
    (h_ring_from : Std K mg "ring_from" (topS 26) ["door", "first", "following"])
    (h_are_door_numbers : Std K mg "are_door_numbers" (topS 28) ["size", "thing"])
    (h_need_door_rates : Std K mg "need_door_rates" (topS 29) ["table", "rates"])
    (h_net_forward : Std K mg "net_forward" (topS 30) ["entries", "rows", "columns", "came"])
    (h_net_backward : Std K mg "net_backward" (topS 31) ["entries", "flows", "rows", "columns", "came"])
    (h_net_walks : Std K mg "net_walks" (topS 32) ["entries", "flows", "rows", "columns"])
    (h_net_push : Std K mg "net_push" (topS 33) ["entries", "flows", "wanted", "begin", "left"])
    (h_net_deal : Std K mg "net_deal" (topS 34) ["entries", "rates"])
    (h_net_worth : Std K mg "net_worth" (topS 35) ["entries", "flows"])
    (h_net_heights : Std K mg "net_heights" (topS 36) ["entries", "flows"])
    (h_deal_paper : Std K mg "deal_paper" (topS 38) ["table", "rates"])
    (h_cheapest_waits : Std K mg "cheapest_waits" (topS 39) ["table", "rates"])
    (h_bars_at : Std K mg "bars_at" (topS 41) ["table", "grain", "waits"])
    (h_is_kept_at : Std K mg "is_kept_at" (topS 42) ["table", "grain", "waits"])
    (h_least_barred : Std K mg "least_barred" (topS 43) ["table", "waits"])
    (h_dearest_dealing : Std K mg "dearest_dealing" (topS 45) ["table", "rates"])
    (h_least_cost : Std K mg "least_cost" (topS 46) ["table", "rates"])
    (h_barring_doors : Std K mg "barring_doors" (topS 48) ["table", "waits"])
    (h_is_kept : Std K mg "is_kept" (topS 49) ["table", "waits"])
    (h_needed_wait : Std K mg "needed_wait" (topS 51) ["table", "waits", "door"])
    (h_others_barred : Std K mg "others_barred" (topS 52) ["table", "waits", "door"])
    (h_least_wait : Std K mg "least_wait" (topS 53) ["table", "waits", "door"])
    (h_is_bare : Std K mg "is_bare" (topS 54) ["table", "waits"])
    (h__law_draws : Std K mg "_law_draws" (topS 56) ["_law_script"])
    (h__law_take : Std K mg "_law_take" (topS 57) ["_law_d", "_law_b"])
    (h__law_same : Std K mg "_law_same" (topS 58) ["_law_thing", "_law_due"])
    (h__law_ints : Std K mg "_law_ints" (topS 59) ["_law_thing", "_law_b"])
    (h__law_table : Std K mg "_law_table" (topS 60) ["_law_d", "_law_b", "_law_unit"])
    (h__law_walks : Std K mg "_law_walks" (topS 61) ["_law_g", "_law_t", "_law_without"])
    (h__law_rooms : Std K mg "_law_rooms" (topS 62) ["_law_g", "_law_t"])
    (h__law_kept : Std K mg "_law_kept" (topS 63) ["_law_g", "_law_t"])
    (h__law_lower : Std K mg "_law_lower" (topS 64) ["_law_g", "_law_t", "_law_x"])
    (h__law_waits : Std K mg "_law_waits" (topS 65) ["_law_d", "_law_g"])
    (h__law_put : Std K mg "_law_put" (topS 66) ["_law_g", "_law_x", "_law_y", "_law_entry"])
    (h__law_ring : Std K mg "_law_ring" (topS 67) ["_law_g", "_law_i"])
    (h__law_loose : Std K mg "_law_loose" (topS 68) ["_law_row", "_law_rests"])
    (h__law_tight : Std K mg "_law_tight" (topS 69) ["_law_g", "_law_t", "_law_rooms_here", "_law_door"])
    (h__law_bars : Std K mg "_law_bars" (topS 70) ["_law_g", "_law_t", "_law_i", "_law_x", "_law_y"])
    (h__law_rest : Std K mg "_law_rest" (topS 71) ["_law_g", "_law_t", "_law_x", "_law_y", "_law_z", "_law_room"])
    (h__law_over : Std K mg "_law_over" (topS 72) ["_law_g", "_law_t", "_law_x", "_law_y", "_law_z", "_law_room", "_law_steps"])
    (h__law_pair : Std K mg "_law_pair" (topS 73) ["_law_g", "_law_t", "_law_rooms_here", "_law_x", "_law_y", "_law_z", "_law_low"])
    (h__law_worth : Std K mg "_law_worth" (topS 74) ["_law_g", "_law_r", "_law_dealing"])
    (h__law_cost : Std K mg "_law_cost" (topS 75) ["_law_g", "_law_r", "_law_t"])
    (h__law_costs : Std K mg "_law_costs" (topS 76) ["_law_g", "_law_r", "_law_x", "_law_y"])
    (h__law_all : Std K mg "_law_all" (topS 77) ["_law_g", "_law_t", "_law_first"])
    (h__law_is_bare : Std K mg "_law_is_bare" (topS 78) ["_law_g", "_law_t", "_law_rooms_here"])
    (h__law_bared : Std K mg "_law_bared" (topS 79) ["_law_g", "_law_t", "_law_first"])
    : ∃ fd : FuncData, (∀ (s : Shared) (u : Value), BindsTo s fd ⟨[u], []⟩ [("_law_script", u)]) ∧ ∀ base : Heap, K.In base → base.Ns mainGlobals mg → FnOk l.prog w K mg base CX0 9 fa fd ["_law_script"] (spLaw K) := by
  have e := hfa.symm.trans (PySem.W.mg_of X G aL)
  cases e
  have B : Bif mg := ⟨PySem.W.mg_none_of X G z_abs, PySem.W.mg_none_of X G z_all, PySem.W.mg_none_of X G z_bool, PySem.W.mg_none_of X G z_enumerate, PySem.W.mg_none_of X G z_int, PySem.W.mg_none_of X G z_isinstance, PySem.W.mg_none_of X G z_len, PySem.W.mg_none_of X G z_list, PySem.W.mg_none_of X G z_max, PySem.W.mg_none_of X G z_min, PySem.W.mg_none_of X G z_range, PySem.W.mg_none_of X G z_set, PySem.W.mg_none_of X G z_str, PySem.W.mg_none_of X G z_sum, PySem.W.mg_none_of X G z_tuple, PySem.W.mg_none_of X G z_zip⟩
  have T : Txt K mg := ⟨B, h_is_integer, h_is_number, h_is_table_door, h_need_table_waits, h_need_table_grain, h_need_table_door, h_need_table_pair, h_step_gains, h_coarse_gains, h_greatest_sums, h_ring_behind, h_sums_to, h_gains_if_kept, h_room_by, h_room_of, h_room_row, h_room_table, h_tight_ring, h_ring_from, h_are_door_numbers, h_need_door_rates, h_net_forward, h_net_backward, h_net_walks, h_net_push, h_net_deal, h_net_worth, h_net_heights, h_deal_paper, h_cheapest_waits, h_bars_at, h_is_kept_at, h_least_barred, h_dearest_dealing, h_least_cost, h_barring_doors, h_is_kept, h_needed_wait, h_others_barred, h_least_wait, h_is_bare, h__law_draws, h__law_take, h__law_same, h__law_ints, h__law_table, h__law_walks, h__law_rooms, h__law_kept, h__law_lower, h__law_waits, h__law_put, h__law_ring, h__law_loose, h__law_tight, h__law_bars, h__law_rest, h__law_over, h__law_pair, h__law_worth, h__law_cost, h__law_costs, h__law_all, h__law_is_bare, h__law_bared, std_mk X G aL lL cL kL b_law⟩
  exact ⟨PySem.W.fnOf "law" "law" (defArgs s_law) (defBody s_law) (defScope s_law) .none kV dc pm an cd ct, fun s u => .of_eq (b_law _ _ _ _ _ _ [u] rfl), fun base _ _ => ok_law T E (fun_mk (st := s_law) lL cL kL)⟩
theorem walk {l : PySem.W.OpenLaw} {q : Program} {loose : List Str} {XP : (Str → Option Value) → Heap → Prop} {YP : World → Heap → Prop} {d : DefRec} {K : Params → PySem.W.Frag} (hn : l.most = some 63) (hdf : d.params.defaults = [])
    (hY : ∀ (w : World) (h : Heap), YP w h → (K w.params).In h)
    (F : ∀ (w : World) (mg : Str → Option Value) (fa : Addr) (h : Heap), (K w.params).In h → h.Ns mainGlobals mg → mg d.name = some (.ref fa) →
      ∃ fd : FuncData, (∀ (s : Shared) (u : Value), BindsTo s fd ⟨[u], []⟩ [("_law_script", u)]) ∧ ∀ base : Heap, (K w.params).In base → base.Ns mainGlobals mg → FnOk l.prog w (K w.params) mg base CX0 9 fa fd ["_law_script"] (spLaw (K w.params))) :
    PySem.W.WalkO q loose XP YP l.row.toRowW d [] (fun f vs => PySem.call f vs) :=
  L2.walk_of (n := 63) (k := 9) (x := "_law_script") (CX := fun _ => CX0) (sp := fun w => spLaw (K w.params)) hn (by decide) hdf ⟨rfl, by decide, by decide⟩ hY F (fun _ _ a ns hl _ hS => ⟨a, ns, rfl, hS, hl, fun _ => rfl⟩) fun _ _ _ _ _ z => z
end K45
end
open PySem PySem.W PyProof.Rows in
set_option maxRecDepth 100000 in
set_option maxHeartbeats 0 in
theorem PySem.Challenge.cw_bestunmoved_k45_whole_rooms_as_entries_holds : PySem.Challenge.rw_bestunmoved_k45_whole_rooms_as_entries.Holds := by
  w_on; o_law; k_head; (case hw => w_witness2)
  k_fill
  refine K45.walk (l := PySem.Challenge.rw_bestunmoved_k45_whole_rooms_as_entries) rfl rfl (fun w h Y => PySem.W.kIn_of Y) ?F
  case F =>
    intro w mg fa h KX G hmg
    refine' K45.all_mk KX G hmg ?E ?aL ?lL ?cL ?kL ?z_abs ?z_all ?z_bool ?z_enumerate ?z_int ?z_isinstance ?z_len ?z_list ?z_max ?z_min ?z_range ?z_set ?z_str ?z_sum ?z_tuple ?z_zip ?h_is_integer ?h_is_number ?h_is_table_door ?h_need_table_waits ?h_need_table_grain ?h_need_table_door ?h_need_table_pair ?h_step_gains ?h_coarse_gains ?h_greatest_sums ?h_ring_behind ?h_sums_to ?h_gains_if_kept ?h_room_by ?h_room_of ?h_room_row ?h_room_table ?h_tight_ring ?h_ring_from ?h_are_door_numbers ?h_need_door_rates ?h_net_forward ?h_net_backward ?h_net_walks ?h_net_push ?h_net_deal ?h_net_worth ?h_net_heights ?h_deal_paper ?h_cheapest_waits ?h_bars_at ?h_is_kept_at ?h_least_barred ?h_dearest_dealing ?h_least_cost ?h_barring_doors ?h_is_kept ?h_needed_wait ?h_others_barred ?h_least_wait ?h_is_bare ?h__law_draws ?h__law_take ?h__law_same ?h__law_ints ?h__law_table ?h__law_walks ?h__law_rooms ?h__law_kept ?h__law_lower ?h__law_waits ?h__law_put ?h__law_ring ?h__law_loose ?h__law_tight ?h__law_bars ?h__law_rest ?h__law_over ?h__law_pair ?h__law_worth ?h__law_cost ?h__law_costs ?h__law_all ?h__law_is_bare ?h__law_bared
    case E =>
      refine' K45.exn_mk KX G ?aC ?xL ?rv ?sa ?ga ?gg ?nb ?a1 ?t1 ?kI ?l1 ?c1 ?kC ?eC ?tC ?hC ?iC ?sC
      (case aC => k_is); (case xL => k_is); (case rv => first | rfl | decide +kernel); (case sa => k_is); (case ga => k_is); (case gg => k_is); (case nb => k_is)
      (case a1 => k_is); (case t1 => k_is); (case kI => k_is); (case l1 => k_is); (case c1 => k_is)
      (case kC => k_is); (case eC => k_is); (case tC => k_is); (case hC => k_is); (case iC => k_is); (case sC => first | rfl | k_is)
    (case aL => k_is); (case lL => k_is); (case cL => k_is); (case kL => k_is)
    (case z_abs => k_is)
    (case z_all => k_is)
    (case z_bool => k_is)
    (case z_enumerate => k_is)
    (case z_int => k_is)
    (case z_isinstance => k_is)
    (case z_len => k_is)
    (case z_list => k_is)
    (case z_max => k_is)
    (case z_min => k_is)
    (case z_range => k_is)
    (case z_set => k_is)
    (case z_str => k_is)
    (case z_sum => k_is)
    (case z_tuple => k_is)
    (case z_zip => k_is)
    (case h_is_integer => refine' K45.std_mk KX G ?a ?l ?c ?k K45.b_is_integer; (case a => k_is); (case l => k_is); (case c => k_is); (case k => k_is))
    (case h_is_number => refine' K45.std_mk KX G ?a ?l ?c ?k K45.b_is_number; (case a => k_is); (case l => k_is); (case c => k_is); (case k => k_is))
    (case h_is_table_door => refine' K45.std_mk KX G ?a ?l ?c ?k K45.b_is_table_door; (case a => k_is); (case l => k_is); (case c => k_is); (case k => k_is))
    (case h_need_table_waits => refine' K45.std_mk KX G ?a ?l ?c ?k K45.b_need_table_waits; (case a => k_is); (case l => k_is); (case c => k_is); (case k => k_is))
    (case h_need_table_grain => refine' K45.std_mk KX G ?a ?l ?c ?k K45.b_need_table_grain; (case a => k_is); (case l => k_is); (case c => k_is); (case k => k_is))
    (case h_need_table_door => refine' K45.std_mk KX G ?a ?l ?c ?k K45.b_need_table_door; (case a => k_is); (case l => k_is); (case c => k_is); (case k => k_is))
    (case h_need_table_pair => refine' K45.std_mk KX G ?a ?l ?c ?k K45.b_need_table_pair; (case a => k_is); (case l => k_is); (case c => k_is); (case k => k_is))
    (case h_step_gains => refine' K45.std_mk KX G ?a ?l ?c ?k K45.b_step_gains; (case a => k_is); (case l => k_is); (case c => k_is); (case k => k_is))
    (case h_coarse_gains => refine' K45.std_mk KX G ?a ?l ?c ?k K45.b_coarse_gains; (case a => k_is); (case l => k_is); (case c => k_is); (case k => k_is))
    (case h_greatest_sums => refine' K45.std_mk KX G ?a ?l ?c ?k K45.b_greatest_sums; (case a => k_is); (case l => k_is); (case c => k_is); (case k => k_is))
    (case h_ring_behind => refine' K45.std_mk KX G ?a ?l ?c ?k K45.b_ring_behind; (case a => k_is); (case l => k_is); (case c => k_is); (case k => k_is))
    (case h_sums_to => refine' K45.std_mk KX G ?a ?l ?c ?k K45.b_sums_to; (case a => k_is); (case l => k_is); (case c => k_is); (case k => k_is))
    (case h_gains_if_kept => refine' K45.std_mk KX G ?a ?l ?c ?k K45.b_gains_if_kept; (case a => k_is); (case l => k_is); (case c => k_is); (case k => k_is))
    (case h_room_by => refine' K45.std_mk KX G ?a ?l ?c ?k K45.b_room_by; (case a => k_is); (case l => k_is); (case c => k_is); (case k => k_is))
    (case h_room_of => refine' K45.std_mk KX G ?a ?l ?c ?k K45.b_room_of; (case a => k_is); (case l => k_is); (case c => k_is); (case k => k_is))
    (case h_room_row => refine' K45.std_mk KX G ?a ?l ?c ?k K45.b_room_row; (case a => k_is); (case l => k_is); (case c => k_is); (case k => k_is))
    (case h_room_table => refine' K45.std_mk KX G ?a ?l ?c ?k K45.b_room_table; (case a => k_is); (case l => k_is); (case c => k_is); (case k => k_is))
    (case h_tight_ring => refine' K45.std_mk KX G ?a ?l ?c ?k K45.b_tight_ring; (case a => k_is); (case l => k_is); (case c => k_is); (case k => k_is))
    (case h_ring_from => refine' K45.std_mk KX G ?a ?l ?c ?k K45.b_ring_from; (case a => k_is); (case l => k_is); (case c => k_is); (case k => k_is))
    (case h_are_door_numbers => refine' K45.std_mk KX G ?a ?l ?c ?k K45.b_are_door_numbers; (case a => k_is); (case l => k_is); (case c => k_is); (case k => k_is))
    (case h_need_door_rates => refine' K45.std_mk KX G ?a ?l ?c ?k K45.b_need_door_rates; (case a => k_is); (case l => k_is); (case c => k_is); (case k => k_is))
    (case h_net_forward => refine' K45.std_mk KX G ?a ?l ?c ?k K45.b_net_forward; (case a => k_is); (case l => k_is); (case c => k_is); (case k => k_is))
    (case h_net_backward => refine' K45.std_mk KX G ?a ?l ?c ?k K45.b_net_backward; (case a => k_is); (case l => k_is); (case c => k_is); (case k => k_is))
    (case h_net_walks => refine' K45.std_mk KX G ?a ?l ?c ?k K45.b_net_walks; (case a => k_is); (case l => k_is); (case c => k_is); (case k => k_is))
    (case h_net_push => refine' K45.std_mk KX G ?a ?l ?c ?k K45.b_net_push; (case a => k_is); (case l => k_is); (case c => k_is); (case k => k_is))
    (case h_net_deal => refine' K45.std_mk KX G ?a ?l ?c ?k K45.b_net_deal; (case a => k_is); (case l => k_is); (case c => k_is); (case k => k_is))
    (case h_net_worth => refine' K45.std_mk KX G ?a ?l ?c ?k K45.b_net_worth; (case a => k_is); (case l => k_is); (case c => k_is); (case k => k_is))
    (case h_net_heights => refine' K45.std_mk KX G ?a ?l ?c ?k K45.b_net_heights; (case a => k_is); (case l => k_is); (case c => k_is); (case k => k_is))
    (case h_deal_paper => refine' K45.std_mk KX G ?a ?l ?c ?k K45.b_deal_paper; (case a => k_is); (case l => k_is); (case c => k_is); (case k => k_is))
    (case h_cheapest_waits => refine' K45.std_mk KX G ?a ?l ?c ?k K45.b_cheapest_waits; (case a => k_is); (case l => k_is); (case c => k_is); (case k => k_is))
    (case h_bars_at => refine' K45.std_mk KX G ?a ?l ?c ?k K45.b_bars_at; (case a => k_is); (case l => k_is); (case c => k_is); (case k => k_is))
    (case h_is_kept_at => refine' K45.std_mk KX G ?a ?l ?c ?k K45.b_is_kept_at; (case a => k_is); (case l => k_is); (case c => k_is); (case k => k_is))
    (case h_least_barred => refine' K45.std_mk KX G ?a ?l ?c ?k K45.b_least_barred; (case a => k_is); (case l => k_is); (case c => k_is); (case k => k_is))
    (case h_dearest_dealing => refine' K45.std_mk KX G ?a ?l ?c ?k K45.b_dearest_dealing; (case a => k_is); (case l => k_is); (case c => k_is); (case k => k_is))
    (case h_least_cost => refine' K45.std_mk KX G ?a ?l ?c ?k K45.b_least_cost; (case a => k_is); (case l => k_is); (case c => k_is); (case k => k_is))
    (case h_barring_doors => refine' K45.std_mk KX G ?a ?l ?c ?k K45.b_barring_doors; (case a => k_is); (case l => k_is); (case c => k_is); (case k => k_is))
    (case h_is_kept => refine' K45.std_mk KX G ?a ?l ?c ?k K45.b_is_kept; (case a => k_is); (case l => k_is); (case c => k_is); (case k => k_is))
    (case h_needed_wait => refine' K45.std_mk KX G ?a ?l ?c ?k K45.b_needed_wait; (case a => k_is); (case l => k_is); (case c => k_is); (case k => k_is))
    (case h_others_barred => refine' K45.std_mk KX G ?a ?l ?c ?k K45.b_others_barred; (case a => k_is); (case l => k_is); (case c => k_is); (case k => k_is))
    (case h_least_wait => refine' K45.std_mk KX G ?a ?l ?c ?k K45.b_least_wait; (case a => k_is); (case l => k_is); (case c => k_is); (case k => k_is))
    (case h_is_bare => refine' K45.std_mk KX G ?a ?l ?c ?k K45.b_is_bare; (case a => k_is); (case l => k_is); (case c => k_is); (case k => k_is))
    (case h__law_draws => refine' K45.std_mk KX G ?a ?l ?c ?k K45.b__law_draws; (case a => k_is); (case l => k_is); (case c => k_is); (case k => k_is))
    (case h__law_take => refine' K45.std_mk KX G ?a ?l ?c ?k K45.b__law_take; (case a => k_is); (case l => k_is); (case c => k_is); (case k => k_is))
    (case h__law_same => refine' K45.std_mk KX G ?a ?l ?c ?k K45.b__law_same; (case a => k_is); (case l => k_is); (case c => k_is); (case k => k_is))
    (case h__law_ints => refine' K45.std_mk KX G ?a ?l ?c ?k K45.b__law_ints; (case a => k_is); (case l => k_is); (case c => k_is); (case k => k_is))
    (case h__law_table => refine' K45.std_mk KX G ?a ?l ?c ?k K45.b__law_table; (case a => k_is); (case l => k_is); (case c => k_is); (case k => k_is))
    (case h__law_walks => refine' K45.std_mk KX G ?a ?l ?c ?k K45.b__law_walks; (case a => k_is); (case l => k_is); (case c => k_is); (case k => k_is))
    (case h__law_rooms => refine' K45.std_mk KX G ?a ?l ?c ?k K45.b__law_rooms; (case a => k_is); (case l => k_is); (case c => k_is); (case k => k_is))
    (case h__law_kept => refine' K45.std_mk KX G ?a ?l ?c ?k K45.b__law_kept; (case a => k_is); (case l => k_is); (case c => k_is); (case k => k_is))
    (case h__law_lower => refine' K45.std_mk KX G ?a ?l ?c ?k K45.b__law_lower; (case a => k_is); (case l => k_is); (case c => k_is); (case k => k_is))
    (case h__law_waits => refine' K45.std_mk KX G ?a ?l ?c ?k K45.b__law_waits; (case a => k_is); (case l => k_is); (case c => k_is); (case k => k_is))
    (case h__law_put => refine' K45.std_mk KX G ?a ?l ?c ?k K45.b__law_put; (case a => k_is); (case l => k_is); (case c => k_is); (case k => k_is))
    (case h__law_ring => refine' K45.std_mk KX G ?a ?l ?c ?k K45.b__law_ring; (case a => k_is); (case l => k_is); (case c => k_is); (case k => k_is))
    (case h__law_loose => refine' K45.std_mk KX G ?a ?l ?c ?k K45.b__law_loose; (case a => k_is); (case l => k_is); (case c => k_is); (case k => k_is))
    (case h__law_tight => refine' K45.std_mk KX G ?a ?l ?c ?k K45.b__law_tight; (case a => k_is); (case l => k_is); (case c => k_is); (case k => k_is))
    (case h__law_bars => refine' K45.std_mk KX G ?a ?l ?c ?k K45.b__law_bars; (case a => k_is); (case l => k_is); (case c => k_is); (case k => k_is))
    (case h__law_rest => refine' K45.std_mk KX G ?a ?l ?c ?k K45.b__law_rest; (case a => k_is); (case l => k_is); (case c => k_is); (case k => k_is))
    (case h__law_over => refine' K45.std_mk KX G ?a ?l ?c ?k K45.b__law_over; (case a => k_is); (case l => k_is); (case c => k_is); (case k => k_is))
    (case h__law_pair => refine' K45.std_mk KX G ?a ?l ?c ?k K45.b__law_pair; (case a => k_is); (case l => k_is); (case c => k_is); (case k => k_is))
    (case h__law_worth => refine' K45.std_mk KX G ?a ?l ?c ?k K45.b__law_worth; (case a => k_is); (case l => k_is); (case c => k_is); (case k => k_is))
    (case h__law_cost => refine' K45.std_mk KX G ?a ?l ?c ?k K45.b__law_cost; (case a => k_is); (case l => k_is); (case c => k_is); (case k => k_is))
    (case h__law_costs => refine' K45.std_mk KX G ?a ?l ?c ?k K45.b__law_costs; (case a => k_is); (case l => k_is); (case c => k_is); (case k => k_is))
    (case h__law_all => refine' K45.std_mk KX G ?a ?l ?c ?k K45.b__law_all; (case a => k_is); (case l => k_is); (case c => k_is); (case k => k_is))
    (case h__law_is_bare => refine' K45.std_mk KX G ?a ?l ?c ?k K45.b__law_is_bare; (case a => k_is); (case l => k_is); (case c => k_is); (case k => k_is))
    (case h__law_bared => refine' K45.std_mk KX G ?a ?l ?c ?k K45.b__law_bared; (case a => k_is); (case l => k_is); (case c => k_is); (case k => k_is))
