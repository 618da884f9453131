import PyProof.Rows.All
import Wide.All
import OpenK.AllK
import Wide.FinOn
import HandS.ForExc
import HandS.Comp
import HandS.Defaults
import HandS.IsInst
import HandS.Wide
import HandS.EndBits
import HandS.TryMany
import HandS.ExcField
import HandS.ExcInit
import HandS.Evl
import PySem.Challenge.RW_lendbook_k06_ratios_are_compared
set_option Elab.async false
set_option linter.all false
set_option maxRecDepth 100000
set_option maxHeartbeats 4000000
/-! own small rules over the hand layer -/
namespace LB
open PySem PySem.Spec PyProof.Rows L2
theorem bt_int : bootBuiltins "int" = some (.type "int") := by decide +kernel
theorem bt_bool : bootBuiltins "bool" = some (.type "bool") := by decide +kernel
theorem bt_str : bootBuiltins "str" = some (.type "str") := by decide +kernel
theorem bt_list : bootBuiltins "list" = some (.type "list") := by decide +kernel
theorem bt_tuple : bootBuiltins "tuple" = some (.type "tuple") := by decide +kernel
theorem bt_dict : bootBuiltins "dict" = some (.type "dict") := by decide +kernel
theorem bt_set : bootBuiltins "set" = some (.type "set") := by decide +kernel
theorem bt_range : bootBuiltins "range" = some (.type "range") := by decide +kernel
theorem bt_len : bootBuiltins "len" = some (.builtin "len") := by decide +kernel
theorem bt_abs : bootBuiltins "abs" = some (.builtin "abs") := by decide +kernel
theorem bt_isinstance : bootBuiltins "isinstance" = some (.builtin "isinstance") := by decide +kernel
theorem bt_sum : bootBuiltins "sum" = some (.builtin "sum") := by decide +kernel
theorem bt_min : bootBuiltins "min" = some (.builtin "min") := by decide +kernel
theorem bt_max : bootBuiltins "max" = some (.builtin "max") := by decide +kernel
theorem bt_sorted : bootBuiltins "sorted" = some (.builtin "sorted") := by decide +kernel
theorem bt_divmod : bootBuiltins "divmod" = some (.builtin "divmod") := by decide +kernel
theorem bt_any : bootBuiltins "any" = some (.builtin "any") := by decide +kernel
theorem bt_all : bootBuiltins "all" = some (.builtin "all") := by decide +kernel

/-! ### sizes of ints: i lies within n bits -/
structure Sz (n : Nat) (i : Int) : Prop where
  lt : i.natAbs < 2 ^ n
theorem Sz.log {n : Nat} {i : Int} (h : Sz n i) : i.natAbs.log2 ≤ n := by
  by_cases h0 : i.natAbs = 0
  · rw [h0]; exact Nat.zero_le _
  · exact Nat.le_of_lt ((Nat.log2_lt h0).mpr h.lt)
theorem Sz.zero (n : Nat) : Sz n 0 := ⟨Nat.pow_pos (by decide)⟩
theorem Sz.mono {m n : Nat} {i : Int} (h : Sz m i) (l : m ≤ n) : Sz n i := ⟨Nat.lt_of_lt_of_le h.lt (Nat.pow_le_pow_right (by decide) l)⟩
theorem Sz.add {m n : Nat} {i j : Int} (a : Sz m i) (b : Sz n j) : Sz (m + n + 1) (i + j) := by
  refine ⟨Nat.lt_of_le_of_lt (Int.natAbs_add_le i j) ?_⟩
  have h1 := (a.mono (Nat.le_add_right m n)).lt
  have h2 := (b.mono (Nat.le_add_left n m)).lt
  rw [Nat.pow_succ]
  omega
theorem Sz.neg {n : Nat} {i : Int} (a : Sz n i) : Sz n (-i) := ⟨by rw [Int.natAbs_neg]; exact a.lt⟩
theorem Sz.sub {m n : Nat} {i j : Int} (a : Sz m i) (b : Sz n j) : Sz (m + n + 1) (i - j) := by
  rw [Int.sub_eq_add_neg]
  exact a.add b.neg
theorem Sz.mul {m n : Nat} {i j : Int} (a : Sz m i) (b : Sz n j) : Sz (m + n) (i * j) := by
  refine ⟨?_⟩
  rw [Int.natAbs_mul, Nat.pow_add]
  exact Nat.mul_lt_mul'' a.lt b.lt
theorem Sz.le {n : Nat} {i j : Int} (a : Sz n j) (h : i.natAbs ≤ j.natAbs) : Sz n i := ⟨Nat.lt_of_le_of_lt h a.lt⟩
theorem Sz.div {n : Nat} {i j : Int} (a : Sz n i) : Sz n (i / j) := a.le (Int.natAbs_ediv_le_natAbs i j)
theorem Sz.mod {n : Nat} {i j : Int} (b : Sz n j) (h : 0 < j) : Sz n (i % j) := b.le (by
  have h1 := Int.emod_nonneg i (b := j) (by omega)
  have h2 := Int.emod_lt_of_pos i h
  omega)
theorem Sz.nn {n : Nat} {i j : Int} (b : Sz n j) (h0 : 0 ≤ i) (h : i ≤ j) : Sz n i := b.le (by omega)
theorem Sz.absv {n : Nat} {i : Int} (a : Sz n i) : Sz n (if i < 0 then -i else i) := by
  by_cases h : i < 0
  · rw [if_pos h]; exact a.neg
  · rw [if_neg h]; exact a
theorem Sz.bits {z : Int} {n : Nat} (h : Builtin.Int.intBits z ≤ n) : Sz n z := by
  refine ⟨?_⟩
  unfold Builtin.Int.intBits at h
  by_cases h0 : z = 0
  · subst h0
    exact Nat.pos_of_ne_zero (by simp)
  · have h1 : ¬ z.natAbs = 0 := by omega
    have h2 : z.natAbs.log2 + 1 ≤ n := by
      split at h
      · rename_i e
        first
          | exact absurd (by simpa using e) h0
          | omega
      · exact h
    exact (Nat.log2_lt h1).mp (by omega)

/-! ### products and quotients of any size -/
/-- a product that fits -/
def CM (i j : Int) : Prop := i.natAbs.log2 + j.natAbs.log2 < 134000000
theorem CM.ok {i j : Int} (h : CM i j) : IntMulOk i j := by
  have b : ∀ x : Int, Builtin.Int.intBits x ≤ x.natAbs.log2 + 1 := fun x => by
    unfold Builtin.Int.intBits
    split <;> omega
  have h1 := b i
  have h2 := b j
  have h3 : i.natAbs.log2 + j.natAbs.log2 < 134000000 := h
  have e := bitsLine_eq
  intro z
  have z2 := (Bool.and_eq_true_iff.mp z).2
  unfold Builtin.Int.intTooBig at z2
  have z3 := of_decide_eq_true z2
  rw [e] at z3
  omega
theorem CM.of {m n : Nat} {i j : Int} (a : Sz m i) (b : Sz n j) (h : m + n < 134000000 := by decide) : CM i j := by
  have h1 := a.log
  have h2 := b.log
  unfold CM
  omega
/-- a positive divisor of less than 9000 bits -/
def CD (_ j : Int) : Prop := 0 < j ∧ j.natAbs.log2 < 9000
theorem CD.of {n : Nat} {i j : Int} (h : 0 < j) (b : Sz n j) (hn : n < 9000 := by decide) : CD i j := ⟨h, Nat.lt_of_le_of_lt b.log hn⟩
theorem CM.of2 {m n : Nat} {i j : Int} (a : Sz m i) (b : Sz n j) (h : m + n < 134000000) : CM i j := CM.of a b h
theorem CD.of2 {n : Nat} {i j : Int} (b : Sz n j) (h : 0 < j) (hn : n < 9000) : CD i j := CD.of h b hn
section
variable {X : Cx}
theorem op_mulB : OpR X (binaryOp .Mult) (rI CM fun i j => .int (i * j)) := opI fun _ _ _ _ _ _ _ hc q => mul_int q hc.ok
theorem op_fdivB : OpR X (binaryOp .FloorDiv) (rI CD fun i j => .int (i / j)) := op_fdivW
end

/-! ### the script's cells -/
def cell (ns : List Int) (i : Nat) : Int := ns.getD i 0
def Bits (ns : List Int) : Prop := ∀ z ∈ ns, Builtin.Int.intBits z ≤ 1048576
theorem cell_sz {ns : List Int} (h : Bits ns) (i : Nat) : Sz 1048576 (cell ns i) := by
  unfold cell
  rw [List.getD_eq_getElem?_getD]
  cases e : ns[i]? with
  | none => exact Sz.zero _
  | some z => exact Sz.bits (h z (List.mem_of_getElem? e))

theorem atI_map_cell {ns : List Int} {j : Nat} (h : j < ns.length) : atI (ns.map V.int) ((j : Nat) : Int) = some (V.int (cell ns j)) := by
  refine atI_nat ?_
  rw [List.getElem?_map, List.getElem?_eq_getElem h]
  unfold cell
  rw [List.getD_eq_getElem?_getD, List.getElem?_eq_getElem h]
  rfl
/-- the answer of isinstance(x, int) and not isinstance(x, bool), by the kind of x -/
def wholeV : V → Option Bool
  | .int _ => some true
  | .bl _ => some false
  | .str _ => some false
  | .non => some false
  | _ => none

/-! ### heaps that grow -/
theorem same_new {H H' : Hp} {p : Addr} {o : HO} (s : Same H H') (h : H' p = none) : Same H (upd H' p o) := fun b u e => by
  rw [upd_ne (ne_of_none (s b u e) h)]
  exact s b u e
theorem same_tup {K : PySem.W.Frag} {H H' : Hp} {a : Addr} {xs : List V} (e : Same H H') (h : SqT K H a xs) : SqT K H' a xs := Evl.ex_t e h
theorem same_lst {K : PySem.W.Frag} {H H' : Hp} {a : Addr} {xs : List V} (e : Same H H') (h : SqL K H a xs) : SqL K H' a xs := Evl.ex_l e h
theorem t_of {K : PySem.W.Frag} {H : Hp} {a : Addr} {xs : List V} (h : H a = some (.tup xs)) : SqT K H a xs := Or.inl (Or.inl h)
theorem l_of {K : PySem.W.Frag} {H : Hp} {a : Addr} {xs : List V} (h : H a = some (.lst xs)) : SqL K H a xs := Or.inl (Or.inl h)
/-- a law's promise: a list of at most 63 ints of at most 2^20 bits each is handed in, True comes out -/
def sp_law (K : PySem.W.Frag) : Sp := fun vs H Q _ => ∃ (a : Addr) (ns : List Int), vs = [.ref a] ∧ SqL K H a (ns.map V.int) ∧ ns.length ≤ 63 ∧ Bits ns ∧ ∀ H', Q (.bl true) H'
theorem passX {X : Cx} : Passes (L2.CX X.prog X.w) X E0 := fun _ _ _ _ _ _ _ h => by
  obtain ⟨_, _, _, _, _, _, _, _, _, _, _, _, z⟩ := h
  exact z.elim
theorem walk {l : PySem.W.OpenLaw} {k : Nat} {q : Program} {loose : List Str} {XP : (Str → Option Value) → Heap → Prop} {YP : World → Heap → Prop} {d : DefRec} {K : Params → PySem.W.Frag} (hn : l.most = some 63) (hdf : d.params.defaults = [])
    (hr : Room k callerA) (hY : ∀ (w : World) (h : Heap), YP w h → (K w.params).In h)
    (F : ∀ (w : World) (mg : Str → Option Value) (fa : Addr) (h : Heap), (K w.params).In h → h.Ns mainGlobals mg → mg d.name = some (.ref fa) →
      ∃ fd : FuncData, (∀ (s : Shared) (u : Value), BindsTo s fd ⟨[u], []⟩ [("script", u)]) ∧ ∀ base : Heap, (K w.params).In base → base.Ns mainGlobals mg → FnOk l.prog w (K w.params) mg base (L2.CX l.prog w) k fa fd ["script"] (sp_law (K w.params))) :
    PySem.W.WalkO q loose XP YP l.row.toRowW d [] (fun f vs => PySem.call f vs) :=
  L2.walk_ofB (n := 63) (k := k) (x := "script") (CX := fun w => L2.CX l.prog w) (sp := fun w => sp_law (K w.params)) hn (by decide) hdf hr hY F (fun _ _ a ns hl hb _ hS => ⟨a, ns, rfl, hS, hl, hb, fun _ => rfl⟩) fun _ _ _ _ _ h => by
    obtain ⟨_, _, _, _, _, _, _, _, _, _, _, _, z⟩ := h
    exact z.elim
/-- a def without defaults, as the top leaves it -/
theorem fun_of {K : PySem.W.Frag} {x qual : Str} {pa : Arguments} {bd : List Stmt} {sc : Scope} {f : Addr} {oc : Value} {od an : Option Addr} {osl : Array (Option Value)} {kV doc pm cdv ct : Value}
    (l : K.lookup f = some ⟨oc, od, .func (PySem.W.fnOf x qual pa bd sc .none kV doc pm an cdv ct), osl⟩) (c : PySem.W.codeIn K cdv qual = true) (k : PySem.W.keepIn K (.ref f) = true) :
    FunD K x qual pa bd sc [] [] f (PySem.W.fnOf x qual pa bd sc .none kV doc pm an cdv ct) := ⟨⟨oc, od, .none, kV, doc, pm, an, cdv, ct, osl, rfl, l, c, .inl ⟨rfl, rfl⟩, .inl rfl⟩, k⟩
/-! ### items by their place -/
section
variable {K : PySem.W.Frag} {H : Hp} {p : Addr} {xs : List V} {i : Int} {v : V} {Q : VK}
theorem ixT_go (h : SqT K H p xs) (e : atI xs i = some v) (q : Q v H) : rIxT K (.ref p) (.int i) H Q := ⟨p, xs, i, v, rfl, rfl, h, e, q⟩
theorem ixL_go (h : SqL K H p xs) (e : atI xs i = some v) (q : Q v H) : rIxL K (.ref p) (.int i) H Q := ⟨p, xs, i, v, rfl, rfl, h, e, q⟩
theorem ixUT_go (h : SqT K H p xs) (e : atI xs i = some v) (q : Q v H) : rIx K (.ref p) (.int i) H Q := .inr (.inl (ixT_go h e q))
theorem ixUL_go (h : SqL K H p xs) (e : atI xs i = some v) (q : Q v H) : rIx K (.ref p) (.int i) H Q := .inl (ixL_go h e q)
end
/-! ### ways -/
theorem iteD {p A B : Prop} [Decidable p] (h1 : p → A) (h2 : ¬ p → B) : if decide p = true then A else B := by
  by_cases h : p
  · rw [decide_eq_true h]; exact iteT (h1 h)
  · rw [decide_eq_false h]; exact iteF (h2 h)
theorem iteDN {p A B : Prop} [Decidable p] (h1 : ¬ p → A) (h2 : p → B) : if (!decide p) = true then A else B := by
  by_cases h : p
  · rw [decide_eq_true h]; exact iteF (h2 h)
  · rw [decide_eq_false h]; exact iteT (h1 h)
theorem iteI {x y : Int} {A B : Prop} (h1 : x = y → A) (h2 : x ≠ y → B) : if decide (V.int x = V.int y) = true then A else B :=
  iteD (fun h => h1 (V.int.inj h)) fun h => h2 fun e => h (congrArg V.int e)
theorem iteIN {x y : Int} {A B : Prop} (h1 : x ≠ y → A) (h2 : x = y → B) : if (!decide (V.int x = V.int y)) = true then A else B :=
  iteDN (fun h => h1 fun e => h (congrArg V.int e)) fun h => h2 (V.int.inj h)
theorem iteS {x y : Str} {A B : Prop} (h1 : x = y → A) (h2 : x ≠ y → B) : if decide (V.str x = V.str y) = true then A else B :=
  iteD (fun h => h1 (V.str.inj h)) fun h => h2 fun e => h (congrArg V.str e)
theorem iteSN {x y : Str} {A B : Prop} (h1 : x ≠ y → A) (h2 : x = y → B) : if (!decide (V.str x = V.str y)) = true then A else B :=
  iteDN (fun h => h1 fun e => h (congrArg V.str e)) fun h => h2 (V.str.inj h)
/-- a statement whose ways meet: P holds behind each of them -/
def tCut (t : TS) : TS := fun D σ H => ∃ W : L2.St → Hp → Prop, t { D with nx := W } σ H ∧ ∀ σ' H', W σ' H' → D.nx σ' H'
theorem ps_cut {X : Cx} {st : Stmt} {t : TS} (h : PS X st t) : PS X st (tCut t) := by
  refine ⟨fun pins s σ H D I hw => ?_⟩
  obtain ⟨W, h1, h2⟩ := hw
  refine thn (h.run pins s σ H _ I h1) fun f s' q => ?_
  cases f with
  | next =>
    obtain ⟨σ', H', I', q'⟩ := q
    exact ⟨σ', H', I', h2 σ' H' q'⟩
  | brk => exact q
  | cont => exact q
  | ret u => exact q
/-- one that stays behind a wall: nothing steps into it -/
structure Later (p : Prop) : Prop where
  get : True → p
end LB

namespace My
open PySem PySem.Spec PyProof.Rows L2 LB
local macro_rules | `(tactic| walk_at "sz") => `(tactic| first
  | assumption
  | ((with_reducible apply Sz.mul) <;> walk_at "sz") | ((with_reducible apply Sz.add) <;> walk_at "sz") | ((with_reducible apply Sz.sub) <;> walk_at "sz") | ((with_reducible apply Sz.neg) <;> walk_at "sz")
  | exact Sz.mk (n := 64) (by omega) | exact Sz.mk (n := 201) (by omega) | ((with_reducible apply Sz.div) <;> walk_at "sz") | (with_reducible exact cell_sz (by assumption) _))
local macro_rules | `(tactic| walk_at "cond") => `(tactic| first
  | ((show (0 : Int) < _); first | decide | omega)
  | assumption
  | ((with_reducible apply CM.of2) <;> first | walk_at "sz" | decide)
  | ((with_reducible apply CD.of2) <;> first | walk_at "sz" | decide | omega)
  | (with_reducible exact ⟨by decide, by decide, by decide⟩))
local macro_rules | `(tactic| walk_at "rd1") => `(tactic| first
  | refine ⟨_, rfl, ?_⟩
  | refine ⟨_, _, rfl, rfl, ?_⟩
  | refine ⟨rfl, ?_⟩
  | refine .inl ⟨_, rfl, ?_⟩
  | refine .inr ⟨_, rfl, ?_⟩
  | refine ⟨_, _, 0, rfl, by assumption, by assumption, by decide, ?_⟩ | refine ⟨_, _, 1, rfl, by assumption, by assumption, by decide, ?_⟩
  | refine ⟨_, _, 2, rfl, by assumption, by assumption, by decide, ?_⟩ | refine ⟨_, _, 3, rfl, by assumption, by assumption, by decide, ?_⟩
  | refine ⟨_, _, 4, rfl, by assumption, by assumption, by decide, ?_⟩ | refine ⟨_, _, 5, rfl, by assumption, by assumption, by decide, ?_⟩
  | refine ⟨_, _, 6, rfl, by assumption, by assumption, by decide, ?_⟩ | refine ⟨_, _, 7, rfl, by assumption, by assumption, by decide, ?_⟩
  | refine ixT_go (by assumption) (by rfl) ?_
  | refine ixL_go (by assumption) (by rfl) ?_
  | refine ixUT_go (by assumption) (by rfl) ?_
  | refine ixUL_go (by assumption) (by rfl) ?_
  | refine And.intro (by walk_at "cond") ?_
  | refine iteT ?_
  | refine iteF ?_)
local macro_rules | `(tactic| walk_at "rd") => `(tactic| repeat (walk_at "rd1"))

def top (i : Nat) : Stmt := PySem.Challenge.pw_lendbook_k06_ratios_are_compared.main.body.getD i (.Pass ⟨0, 0, 0, 0⟩)
abbrev s_compare : Stmt := top 1
abbrev s_floor_of : Stmt := top 2
abbrev s__law_cell : Stmt := top 4
abbrev s__law_wide : Stmt := top 5
abbrev s__law_whole : Stmt := top 6
abbrev s__law_gcd : Stmt := top 7
abbrev s__law_lowest : Stmt := top 8
abbrev s__law_sign : Stmt := top 9
abbrev s_law : Stmt := top 10
theorem sc_compare : FnScope ["a", "b", "left", "right"] ["a", "b"] (defScope s_compare) := ⟨rfl, rfl, rfl, by decide +kernel, rfl, by decide +kernel, by decide +kernel⟩
theorem sc_floor_of : FnScope ["a"] ["a"] (defScope s_floor_of) := ⟨rfl, rfl, rfl, by decide +kernel, rfl, by decide +kernel, by decide +kernel⟩
theorem sc__law_cell : FnScope ["script", "k"] ["script", "k"] (defScope s__law_cell) := ⟨rfl, rfl, rfl, by decide +kernel, rfl, by decide +kernel, by decide +kernel⟩
theorem sc__law_wide : FnScope ["script", "k"] ["script", "k"] (defScope s__law_wide) := ⟨rfl, rfl, rfl, by decide +kernel, rfl, by decide +kernel, by decide +kernel⟩
theorem sc__law_whole : FnScope ["x"] ["x"] (defScope s__law_whole) := ⟨rfl, rfl, rfl, by decide +kernel, rfl, by decide +kernel, by decide +kernel⟩
theorem sc__law_gcd : FnScope ["a", "b", "k", "rest"] ["a", "b"] (defScope s__law_gcd) := ⟨rfl, rfl, rfl, by decide +kernel, rfl, by decide +kernel, by decide +kernel⟩
theorem sc__law_lowest : FnScope ["top", "bottom", "common"] ["top", "bottom"] (defScope s__law_lowest) := ⟨rfl, rfl, rfl, by decide +kernel, rfl, by decide +kernel, by decide +kernel⟩
theorem sc__law_sign : FnScope ["x"] ["x"] (defScope s__law_sign) := ⟨rfl, rfl, rfl, by decide +kernel, rfl, by decide +kernel, by decide +kernel⟩
theorem sc_law : FnScope ["script", "bottom", "a", "b", "told", "back", "pair", "floor"] ["script"] (defScope s_law) := ⟨rfl, rfl, rfl, by decide +kernel, rfl, by decide +kernel, by decide +kernel⟩
structure Txt (K : PySem.W.Frag) (mg : Str → Option Value) : Type where
  a_compare : Addr
  fd_compare : FuncData
  F_compare : FunD K "compare" "compare" (defArgs s_compare) (defBody s_compare) (defScope s_compare) [] [] a_compare fd_compare
  m_compare : mg "compare" = some (.ref a_compare)
  b_compare : Binds K fd_compare ["a", "b"] []
  a_floor_of : Addr
  fd_floor_of : FuncData
  F_floor_of : FunD K "floor_of" "floor_of" (defArgs s_floor_of) (defBody s_floor_of) (defScope s_floor_of) [] [] a_floor_of fd_floor_of
  m_floor_of : mg "floor_of" = some (.ref a_floor_of)
  b_floor_of : Binds K fd_floor_of ["a"] []
  a__law_cell : Addr
  fd__law_cell : FuncData
  F__law_cell : FunD K "_law_cell" "_law_cell" (defArgs s__law_cell) (defBody s__law_cell) (defScope s__law_cell) [] [] a__law_cell fd__law_cell
  m__law_cell : mg "_law_cell" = some (.ref a__law_cell)
  b__law_cell : Binds K fd__law_cell ["script", "k"] []
  a__law_wide : Addr
  fd__law_wide : FuncData
  F__law_wide : FunD K "_law_wide" "_law_wide" (defArgs s__law_wide) (defBody s__law_wide) (defScope s__law_wide) [] [] a__law_wide fd__law_wide
  m__law_wide : mg "_law_wide" = some (.ref a__law_wide)
  b__law_wide : Binds K fd__law_wide ["script", "k"] []
  a__law_whole : Addr
  fd__law_whole : FuncData
  F__law_whole : FunD K "_law_whole" "_law_whole" (defArgs s__law_whole) (defBody s__law_whole) (defScope s__law_whole) [] [] a__law_whole fd__law_whole
  m__law_whole : mg "_law_whole" = some (.ref a__law_whole)
  b__law_whole : Binds K fd__law_whole ["x"] []
  a__law_gcd : Addr
  fd__law_gcd : FuncData
  F__law_gcd : FunD K "_law_gcd" "_law_gcd" (defArgs s__law_gcd) (defBody s__law_gcd) (defScope s__law_gcd) [] [] a__law_gcd fd__law_gcd
  m__law_gcd : mg "_law_gcd" = some (.ref a__law_gcd)
  b__law_gcd : Binds K fd__law_gcd ["a", "b"] []
  a__law_lowest : Addr
  fd__law_lowest : FuncData
  F__law_lowest : FunD K "_law_lowest" "_law_lowest" (defArgs s__law_lowest) (defBody s__law_lowest) (defScope s__law_lowest) [] [] a__law_lowest fd__law_lowest
  m__law_lowest : mg "_law_lowest" = some (.ref a__law_lowest)
  b__law_lowest : Binds K fd__law_lowest ["top", "bottom"] []
  a__law_sign : Addr
  fd__law_sign : FuncData
  F__law_sign : FunD K "_law_sign" "_law_sign" (defArgs s__law_sign) (defBody s__law_sign) (defScope s__law_sign) [] [] a__law_sign fd__law_sign
  m__law_sign : mg "_law_sign" = some (.ref a__law_sign)
  b__law_sign : Binds K fd__law_sign ["x"] []
  a_law : Addr
  fd_law : FuncData
  F_law : FunD K "law" "law" (defArgs s_law) (defBody s_law) (defScope s_law) [] [] a_law fd_law
  m_law : mg "law" = some (.ref a_law)
  b_law : Binds K fd_law ["script"] []
  z_len : mg "len" = none
  z_int : mg "int" = none
  z_isinstance : mg "isinstance" = none
  z_bool : mg "bool" = none
  z_abs : mg "abs" = none
  z_range : mg "range" = none
section
variable {P : Program} {w : World} {K : PySem.W.Frag} {mg : Str → Option Value} {base : Heap}
/-! ### _law_gcd -/
/-- the pair behind i turns -/
def euc (x y : Nat) : Nat → Nat × Nat
  | 0 => (x, y)
  | i + 1 => ((euc x y i).2, (euc x y i).1 % (euc x y i).2)
theorem euc_gcd (x y : Nat) : ∀ i, (∀ j, j < i → (euc x y j).2 ≠ 0) → Nat.gcd (euc x y i).1 (euc x y i).2 = Nat.gcd x y
  | 0, _ => rfl
  | i + 1, h => by
    have ih := euc_gcd x y i fun j hj => h j (Nat.lt_succ_of_lt hj)
    show Nat.gcd (euc x y i).2 ((euc x y i).1 % (euc x y i).2) = _
    rw [← ih, Nat.gcd_comm (euc x y i).1, Nat.gcd_rec (euc x y i).2 (euc x y i).1, Nat.gcd_comm]
theorem euc_half (x y i : Nat) (h0 : (euc x y i).2 ≠ 0) (h1 : (euc x y (i + 1)).2 ≠ 0) : 2 * (euc x y (i + 2)).2 < (euc x y i).2 := by
  have e1 : (euc x y (i + 1)).2 = (euc x y i).1 % (euc x y i).2 := rfl
  have e2 : (euc x y (i + 2)).2 = (euc x y i).2 % ((euc x y i).1 % (euc x y i).2) := rfl
  have l1 : (euc x y i).1 % (euc x y i).2 < (euc x y i).2 := Nat.mod_lt _ (Nat.pos_of_ne_zero h0)
  rw [e1] at h1
  rw [e2]
  generalize (euc x y i).1 % (euc x y i).2 = r at h1 l1
  generalize (euc x y i).2 = b at l1
  have l2 : b % r < r := Nat.mod_lt _ (Nat.pos_of_ne_zero h1)
  by_cases c : 2 * r ≤ b
  · omega
  · have e3 : b % r = b - r := by
      rw [Nat.mod_eq_sub_mod (by omega), Nat.mod_eq_of_lt (by omega)]
    omega
theorem euc_ends (x y : Nat) : ∀ n, y < 2 ^ n → ∃ j, j ≤ 2 * n ∧ (euc x y j).2 = 0 := by
  have key : ∀ n i, (∀ j, j < i + 2 * n → (euc x y j).2 ≠ 0) → (euc x y i).2 < 2 ^ n → (euc x y (i + 2 * n)).2 = 0 := by
    intro n
    induction n with
    | zero =>
      intro i _ h
      have : (euc x y i).2 < 1 := h
      show (euc x y i).2 = 0
      omega
    | succ n ih =>
      intro i hj h
      have hh := euc_half x y i (hj i (by omega)) (hj (i + 1) (by omega))
      have l : (euc x y (i + 2)).2 < 2 ^ n := by
        rw [Nat.pow_succ] at h
        omega
      have := ih (i + 2) (fun j l => hj j (by omega)) l
      rw [show i + 2 * (n + 1) = i + 2 + 2 * n by omega]
      exact this
  intro n hy
  by_cases c : ∃ j, j < 2 * n ∧ (euc x y j).2 = 0
  · obtain ⟨j, l, e⟩ := c
    exact ⟨j, by omega, e⟩
  · refine ⟨2 * n, by omega, ?_⟩
    have := key n 0 (fun j l e => c ⟨j, by omega, e⟩) hy
    rw [Nat.zero_add] at this
    exact this
def sp__law_gcd : Sp := fun vs H Q _ => ∃ (a b : Int) (n : Nat), vs = [.int a, .int b] ∧ Sz n b ∧ n < 1000 ∧ Q (.int ((Nat.gcd a.natAbs b.natAbs : Nat) : Int)) H
theorem abs_nat (a : Int) : (if a < 0 then -a else a) = (a.natAbs : Int) := by
  split <;> omega
theorem ok__law_gcd (T : Txt K mg) : FnOk P w K mg base (L2.CX P w) 1 T.a__law_gcd T.fd__law_gcd ["a", "b"] sp__law_gcd := by
  refine T.F__law_gcd.ok sc__law_gcd (fun vs H Q E h => ?_) (fun cdv A outer s H vs Q E hr h => ?_)
  · obtain ⟨a, b, n, rfl, _⟩ := h
    rfl
  · obtain ⟨a, b, n, rfl, hb, hn, q⟩ := h
    refine ⟨_, (pss_cons (ps_set (i := 0) sc__law_gcd.nd rfl (Or.inl rfl) (pe_callB call_abs rfl T.z_abs bt_abs (pa_cons (pv 0) pa_nil)))
    (pss_cons (ps_set (i := 1) sc__law_gcd.nd rfl (Or.inl rfl) (pe_callB call_abs rfl T.z_abs bt_abs (pa_cons (pv 1) pa_nil)))
    (pss_cons (ps_for (passes_of rfl) rfl (pi_range1 rfl T.z_range (pa_cons pe_int pa_nil)) (pg_name (i := 2) sc__law_gcd.nd rfl (Or.inl rfl))
      (pss_cons (ps_if (pt_cmpR op_eq (pv 1) pe_int (nomark _)) (pss_one ps_break) pss_nil)
      (pss_cons (ps_set (i := 3) sc__law_gcd.nd rfl (Or.inl rfl) (pe_op op_mod (pe_callTy call_int1 rfl T.z_int bt_int (pa_cons (pv 0) pa_nil)) (pv 1)))
      (pss_cons (ps_set (i := 0) sc__law_gcd.nd rfl (Or.inl rfl) (pv 1))
      (pss_one (ps_set (i := 1) sc__law_gcd.nd rfl (Or.inl rfl) (pv 3)))))))
    (pss_one (ps_ret (pv 0)))))), ?_⟩
    walk_at "rd"
    rw [abs_nat, abs_nat]
    refine ⟨by decide, by decide, for_range (n := 2000) (fun i σ H' => ∃ v r : Option V, H' = H ∧ σ = [some (.int ((euc a.natAbs b.natAbs i).1 : Int)), some (.int ((euc a.natAbs b.natAbs i).2 : Int)), v, r] ∧ ∀ j, j < i → (euc a.natAbs b.natAbs j).2 ≠ 0)
      ⟨none, none, rfl, rfl, fun j l => absurd l (Nat.not_lt_zero j)⟩ ?_ ?_⟩
    · rintro i σ H' hi ⟨v, r, rfl, rfl, hj⟩
      walk_at "rd"
      refine ite2 (fun h => ?_) (fun h => ?_)
      · have h0 : (euc a.natAbs b.natAbs i).2 = 0 := by
          have := V.int.inj (of_decide_eq_true h)
          omega
        walk_at "rd"
        have e := euc_gcd a.natAbs b.natAbs i hj
        rw [h0, Nat.gcd_zero_right] at e
        rw [e]
        exact q
      · have h0 : (euc a.natAbs b.natAbs i).2 ≠ 0 := fun z => h (decide_eq_true (by rw [z]; rfl))
        refine ⟨_, rfl, .inl ⟨_, rfl, _, rfl, _, _, rfl, rfl, by omega, _, rfl, _, rfl, some (.int (0 + (i : Int))), some (.int ((euc a.natAbs b.natAbs (i + 1)).2 : Int)), rfl, rfl, fun j l => ?_⟩⟩
        by_cases c : j < i
        · exact hj j c
        · rw [show j = i by omega]
          exact h0
    · rintro σ H' ⟨v, r, rfl, rfl, hj⟩
      obtain ⟨j, l, e⟩ := euc_ends a.natAbs b.natAbs n hb.lt
      exact absurd e (hj j (by omega))

/-! ### _law_lowest -/
/-- t by b in lowest terms -/
def low (t b : Int) : Int × Int := if b < 0 then (-t / (Nat.gcd t.natAbs b.natAbs : Nat), -b / (Nat.gcd t.natAbs b.natAbs : Nat)) else (t / (Nat.gcd t.natAbs b.natAbs : Nat), b / (Nat.gcd t.natAbs b.natAbs : Nat))
theorem low_pos {t b : Int} (h : b ≠ 0) : 0 < (low t b).2 := by
  have g0 : 0 < Nat.gcd t.natAbs b.natAbs := Nat.gcd_pos_of_pos_right _ (by omega)
  have dv : (Nat.gcd t.natAbs b.natAbs : Int) ∣ b := Int.ofNat_dvd_left.mpr (Nat.gcd_dvd_right _ _)
  unfold low
  by_cases c : b < 0
  · rw [if_pos c]
    exact Int.ediv_pos_of_pos_of_dvd (by omega) (by omega) (Int.dvd_neg.mpr dv)
  · rw [if_neg c]
    exact Int.ediv_pos_of_pos_of_dvd (by omega) (by omega) dv
theorem low_sz1 {t b : Int} {n : Nat} (h : Sz n t) : Sz n (low t b).1 := by
  unfold low
  split
  · exact h.neg.div
  · exact h.div
theorem low_sz2 {t b : Int} {n : Nat} (h : Sz n b) : Sz n (low t b).2 := by
  unfold low
  split
  · exact h.neg.div
  · exact h.div
def sp__law_lowest : Sp := fun vs H Q _ => ∃ (t b : Int) (n : Nat), vs = [.int t, .int b] ∧ Sz n b ∧ b ≠ 0 ∧ n < 1000 ∧ ∀ p H', Same H H' → H p = none → H' p = some (.tup [.int (low t b).1, .int (low t b).2]) → Q (.ref p) H'
theorem ok__law_lowest (T : Txt K mg) : FnOk P w K mg base (L2.CX P w) 2 T.a__law_lowest T.fd__law_lowest ["top", "bottom"] sp__law_lowest := by
  refine T.F__law_lowest.ok sc__law_lowest (fun vs H Q E h => ?_) (fun cdv A outer s H vs Q E hr h => ?_)
  · obtain ⟨t, b, n, rfl, _⟩ := h
    rfl
  · obtain ⟨t, b, n, rfl, hb, b0, hn, q⟩ := h
    refine ⟨_, (pss_cons (ps_cut (ps_if (pt_cmpR op_lt (pv 1) pe_int (nomark _)) (pss_cons (ps_set (i := 0) sc__law_lowest.nd rfl (Or.inl rfl) (pe_un un_neg (pv 0)))
      (pss_one (ps_set (i := 1) sc__law_lowest.nd rfl (Or.inl rfl) (pe_un un_neg (pv 1))))) pss_nil))
    (pss_cons (ps_set (i := 2) sc__law_lowest.nd rfl (Or.inl rfl) (pe_callS (ok__law_gcd T) (hr.mono (by decide)) rfl T.m__law_gcd T.F__law_gcd.kp T.b__law_gcd (fun σ => passAt (takes_of rfl rfl rfl rfl) σ) (pa_cons (pv 0) (pa_cons (pv 1) pa_nil))))
    (pss_one (ps_ret (pe_tup (pa_cons (pe_op op_fdivB (pv 0) (pv 2)) (pa_cons (pe_op op_fdivB (pv 1) (pv 2)) pa_nil))))))), ?_⟩
    have g0 : 0 < Nat.gcd t.natAbs b.natAbs := Nat.gcd_pos_of_pos_right _ (by omega)
    have gs : Sz n (Nat.gcd t.natAbs b.natAbs : Int) := hb.le (by
      have := Nat.gcd_le_right t.natAbs (n := b.natAbs) (by omega)
      omega)
    have cd : ∀ i, CD i (Nat.gcd t.natAbs b.natAbs : Int) := fun i => ⟨by omega, Nat.lt_of_le_of_lt gs.log (by omega)⟩
    have fin : ∀ u v : Int, low t b = (u, v) → ∀ p, H p = none → Q (.ref p) (upd H p (.tup [.int u, .int v])) := fun u v e p hp => by
      refine q p _ (same_new (Same.refl H) hp) hp ?_
      rw [e]
      exact upd_same
    refine ⟨fun σ' H' => H' = H ∧ ∃ t' b' : Int, σ' = [some (.int t'), some (.int b'), none] ∧ t'.natAbs = t.natAbs ∧ b'.natAbs = b.natAbs ∧ low t b = (t' / (Nat.gcd t.natAbs b.natAbs : Nat), b' / (Nat.gcd t.natAbs b.natAbs : Nat)), ?_, ?_⟩
    · walk_at "rd"
      refine iteD (fun h => ?_) (fun h => ?_)
      · exact ⟨_, rfl, _, rfl, _, rfl, _, rfl, rfl, -t, -b, rfl, Int.natAbs_neg t, Int.natAbs_neg b, if_pos h⟩
      · exact ⟨rfl, t, b, rfl, rfl, rfl, if_neg h⟩
    · rintro σ' H' ⟨rfl, t', b', rfl, et, eb, el⟩
      refine ⟨_, rfl, _, rfl, t', b', n, rfl, hb.le (by omega), hn, ?_⟩
      rw [et, eb]
      exact ⟨_, rfl, _, rfl, _, _, rfl, rfl, cd _, _, rfl, _, rfl, _, _, rfl, rfl, cd _, by show 2 ≤ sizeLine; decide, fun p hp => fin _ _ el p hp⟩

/-! ### compare -/
def cmp2 (x y : Int) : Int := if x < y then -1 else if y < x then 1 else 0
def sp_compare (K : PySem.W.Frag) : Sp := fun vs H Q _ => ∃ (p q : Addr) (a0 a1 b0 b1 : Int), vs = [.ref p, .ref q] ∧ SqT K H p [.int a0, .int a1] ∧ SqT K H q [.int b0, .int b1] ∧ CM a0 b1 ∧ CM b0 a1 ∧ Q (.int (cmp2 (a0 * b1) (b0 * a1))) H
theorem ok_compare (T : Txt K mg) : FnOk P w K mg base (L2.CX P w) 1 T.a_compare T.fd_compare ["a", "b"] (sp_compare K) := by
  refine T.F_compare.ok sc_compare (fun vs H Q E h => ?_) (fun cdv A outer s H vs Q E hr h => ?_)
  · obtain ⟨p, q, a0, a1, b0, b1, rfl, _⟩ := h
    rfl
  · obtain ⟨p, q, a0, a1, b0, b1, rfl, hp, hq, c1, c2, k⟩ := h
    refine ⟨_, (pss_cons (ps_set (i := 2) sc_compare.nd rfl (Or.inl rfl) (pe_op op_mulB (pe_ix ix_seq (pv 0) pe_int (fun _ _ => rfl)) (pe_ix ix_seq (pv 1) pe_int (fun _ _ => rfl))))
    (pss_cons (ps_set (i := 3) sc_compare.nd rfl (Or.inl rfl) (pe_op op_mulB (pe_ix ix_seq (pv 1) pe_int (fun _ _ => rfl)) (pe_ix ix_seq (pv 0) pe_int (fun _ _ => rfl))))
    (pss_cons (ps_if (pt_cmpR op_lt (pv 2) (pv 3) (nomark _)) (pss_one (ps_ret (pe_un un_neg pe_int))) pss_nil)
    (pss_cons (ps_if (pt_cmpR op_gt (pv 2) (pv 3) (nomark _)) (pss_one (ps_ret pe_int)) pss_nil)
    (pss_one (ps_ret pe_int)))))), ?_⟩
    refine ⟨_, rfl, .inr (.inl ⟨p, _, 0, .int a0, rfl, rfl, hp, rfl, _, rfl, .inr (.inl ⟨q, _, 1, .int b1, rfl, rfl, hq, rfl, _, _, rfl, rfl, c1, ?_⟩)⟩)⟩
    refine ⟨_, rfl, .inr (.inl ⟨q, _, 0, .int b0, rfl, rfl, hq, rfl, _, rfl, .inr (.inl ⟨p, _, 1, .int a1, rfl, rfl, hp, rfl, _, _, rfl, rfl, c2, ?_⟩)⟩)⟩
    walk_at "rd"
    refine ite2 (fun h => ?_) (fun h => ?_)
    · have h' := of_decide_eq_true h
      walk_at "rd"
      have e : cmp2 (a0 * b1) (b0 * a1) = -1 := if_pos h'
      rw [e] at k
      exact k
    · have h' : ¬ a0 * b1 < b0 * a1 := fun z => h (decide_eq_true z)
      walk_at "rd"
      refine ite2 (fun h2 => ?_) (fun h2 => ?_)
      · have e : cmp2 (a0 * b1) (b0 * a1) = 1 := (if_neg h').trans (if_pos (of_decide_eq_true h2))
        rw [e] at k
        exact k
      · have e : cmp2 (a0 * b1) (b0 * a1) = 0 := (if_neg h').trans (if_neg fun z => h2 (decide_eq_true z))
        rw [e] at k
        exact k

/-! ### _law_cell -/
def sp__law_cell (K : PySem.W.Frag) : Sp := fun vs H Q _ => ∃ (l : Addr) (ns : List Int) (j : Nat), vs = [.ref l, .int (j : Nat)] ∧ SqL K H l (ns.map V.int) ∧ ns.length ≤ 63 ∧ j < 64 ∧ Q (.int (cell ns j)) H
theorem ok__law_cell (T : Txt K mg) : FnOk P w K mg base (L2.CX P w) 1 T.a__law_cell T.fd__law_cell ["script", "k"] (sp__law_cell K) := by
  refine T.F__law_cell.ok sc__law_cell (fun vs H Q E h => ?_) (fun cdv A outer s H vs Q E hr h => ?_)
  · obtain ⟨l, ns, j, rfl, _⟩ := h
    rfl
  · obtain ⟨l, ns, j, rfl, hs, hn, hj, q⟩ := h
    refine ⟨_, (pss_cons (ps_if (pt_cmpR op_lt (pv 1) (pe_callB call_len_seq rfl T.z_len bt_len (pa_cons (pv 0) pa_nil)) (nomark _)) (pss_one (ps_ret (pe_ix ix_seq (pv 0) (pv 1) (fun _ _ => rfl)))) pss_nil)
    (pss_one (ps_ret pe_int))), ?_⟩
    refine ⟨_, rfl, _, rfl, l, _, rfl, .inl hs, _, _, rfl, rfl, _, rfl, ?_⟩
    rw [List.length_map]
    refine ite2 (fun h => ?_) (fun h => ?_)
    · have h' : j < ns.length := by have := of_decide_eq_true h; omega
      refine ⟨_, rfl, _, rfl, .inl ⟨l, _, _, .int (cell ns j), rfl, rfl, hs, ?_, q⟩⟩
      exact atI_map_cell h'
    · have h' : ns.length ≤ j := by
        refine Nat.le_of_not_lt fun z => h (decide_eq_true ?_)
        omega
      have e : cell ns j = 0 := by unfold cell; rw [List.getD_eq_getElem?_getD, List.getElem?_eq_none h']; rfl
      rw [e] at q
      exact q

/-! ### _law_wide -/
def wide (ns : List Int) (j : Nat) : Int := cell ns j % (2 * 10 ^ 60 + 1) - 10 ^ 60
theorem wide_sz (ns : List Int) (j : Nat) : Sz 201 (wide ns j) := by
  have h1 := Int.emod_nonneg (cell ns j) (b := 2 * 10 ^ 60 + 1) (by decide)
  have h2 := Int.emod_lt_of_pos (cell ns j) (b := 2 * 10 ^ 60 + 1) (by decide)
  refine ⟨?_⟩
  unfold wide
  omega
def sp__law_wide (K : PySem.W.Frag) : Sp := fun vs H Q _ => ∃ (l : Addr) (ns : List Int) (j : Nat), vs = [.ref l, .int (j : Nat)] ∧ SqL K H l (ns.map V.int) ∧ ns.length ≤ 63 ∧ j < 64 ∧ Q (.int (wide ns j)) H
theorem ok__law_wide (T : Txt K mg) : FnOk P w K mg base (L2.CX P w) 2 T.a__law_wide T.fd__law_wide ["script", "k"] (sp__law_wide K) := by
  refine T.F__law_wide.ok sc__law_wide (fun vs H Q E h => ?_) (fun cdv A outer s H vs Q E hr h => ?_)
  · obtain ⟨l, ns, j, rfl, _⟩ := h
    rfl
  · obtain ⟨l, ns, j, rfl, hs, hn, hj, q⟩ := h
    refine ⟨_, (pss_one (ps_ret (pe_op op_sub (pe_op op_mod (pe_callTy call_int1 rfl T.z_int bt_int (pa_cons (pe_callS (ok__law_cell T) (hr.mono (by decide)) rfl T.m__law_cell T.F__law_cell.kp T.b__law_cell (fun σ => passAt (takes_of rfl rfl rfl rfl) σ) (pa_cons (pv 0) (pa_cons (pv 1) pa_nil))) pa_nil)) (pe_op op_add (pe_op op_mulB pe_int (pe_op op_pow pe_int pe_int)) pe_int)) (pe_op op_pow pe_int pe_int)))), ?_⟩
    refine ⟨_, rfl, _, rfl, l, ns, j, rfl, hs, hn, hj, .inl ⟨_, rfl, ?_⟩⟩
    exact ⟨_, _, rfl, rfl, ⟨by decide, by decide, by decide⟩, _, _, rfl, rfl, CM.of (m := 2) (n := 200) ⟨by decide⟩ ⟨by decide⟩, _, _, rfl, rfl, _, _, rfl, rfl, (by show (0 : Int) < 2 * 10 ^ 60 + 1; decide), _, _, rfl, rfl, ⟨by decide, by decide, by decide⟩, _, _, rfl, rfl, q⟩

/-! ### floor_of -/
def sp_floor_of (K : PySem.W.Frag) : Sp := fun vs H Q _ => ∃ (p : Addr) (a0 a1 : Int), vs = [.ref p] ∧ SqT K H p [.int a0, .int a1] ∧ CD a0 a1 ∧ Q (.int (a0 / a1)) H
theorem ok_floor_of (T : Txt K mg) : FnOk P w K mg base (L2.CX P w) 1 T.a_floor_of T.fd_floor_of ["a"] (sp_floor_of K) := by
  refine T.F_floor_of.ok sc_floor_of (fun vs H Q E h => ?_) (fun cdv A outer s H vs Q E hr h => ?_)
  · obtain ⟨p, a0, a1, rfl, _⟩ := h
    rfl
  · obtain ⟨p, a0, a1, rfl, hp, c, k⟩ := h
    refine ⟨_, (pss_one (ps_ret (pe_op op_fdivB (pe_ix ix_seq (pv 0) pe_int (fun _ _ => rfl)) (pe_ix ix_seq (pv 0) pe_int (fun _ _ => rfl))))), ?_⟩
    exact ⟨_, rfl, .inr (.inl ⟨p, _, 0, .int a0, rfl, rfl, hp, rfl, _, rfl, .inr (.inl ⟨p, _, 1, .int a1, rfl, rfl, hp, rfl, _, _, rfl, rfl, c, k⟩)⟩)⟩

/-! ### _law_whole -/
def sp__law_whole : Sp := fun vs H Q _ => ∃ (x : V) (b : Bool), vs = [x] ∧ wholeV x = some b ∧ Q (.bl b) H
theorem ok__law_whole (T : Txt K mg) : FnOk P w K mg base (L2.CX P w) 1 T.a__law_whole T.fd__law_whole ["x"] sp__law_whole := by
  refine T.F__law_whole.ok sc__law_whole (fun vs H Q E h => ?_) (fun cdv A outer s H vs Q E hr h => ?_)
  · obtain ⟨x, b, rfl, _⟩ := h
    rfl
  · obtain ⟨x, b, rfl, hb, q⟩ := h
    refine ⟨_, (pss_one (ps_ret (pe_and (pe_callB call_isi rfl T.z_isinstance bt_isinstance (pa_cons (pv 0) (pa_cons (pe_bltn (v := .ty "int") rfl T.z_int bt_int rfl) pa_nil))) (pe_one (pe_not (pe_callB call_isi rfl T.z_isinstance bt_isinstance (pa_cons (pv 0) (pa_cons (pe_bltn (v := .ty "bool") rfl T.z_bool bt_bool rfl) pa_nil)))))))), ?_⟩
    cases x with
    | int i =>
      cases hb
      refine ⟨_, rfl, .int i, .ty "int", _, _, true, rfl, .ty _, .base (.int i), kit_ty (by decide +kernel), _, rfl, iteT ?_⟩
      exact ⟨_, rfl, .int i, .ty "bool", _, _, false, rfl, .ty _, .base (.int i), kit_ty (by decide +kernel), _, rfl, q⟩
    | bl i =>
      cases hb
      refine ⟨_, rfl, .bl i, .ty "int", _, _, true, rfl, .ty _, .base (.bl i), kit_ty (by decide +kernel), _, rfl, iteT ?_⟩
      exact ⟨_, rfl, .bl i, .ty "bool", _, _, true, rfl, .ty _, .base (.bl i), kit_ty (by decide +kernel), _, rfl, q⟩
    | str i =>
      cases hb
      exact ⟨_, rfl, .str i, .ty "int", _, _, false, rfl, .ty _, .base (.str i), kit_ty (by decide +kernel), _, rfl, iteF q⟩
    | non =>
      cases hb
      exact ⟨_, rfl, .non, .ty "int", _, _, false, rfl, .ty _, .base .non, kit_ty (by decide +kernel), _, rfl, iteF q⟩
    | byt _ => cases hb
    | flt _ => cases hb
    | ref _ => cases hb
    | ty _ => cases hb

/-! ### _law_sign -/
def sgn (x : Int) : Int := (if 0 < x then 1 else 0) - (if x < 0 then 1 else 0)
def sp__law_sign : Sp := fun vs H Q _ => ∃ (x : Int), vs = [.int x] ∧ Q (.int (sgn x)) H
theorem ok__law_sign (T : Txt K mg) : FnOk P w K mg base (L2.CX P w) 1 T.a__law_sign T.fd__law_sign ["x"] sp__law_sign := by
  refine T.F__law_sign.ok sc__law_sign (fun vs H Q E h => ?_) (fun cdv A outer s H vs Q E hr h => ?_)
  · obtain ⟨x, rfl, _⟩ := h
    rfl
  · obtain ⟨x, rfl, q⟩ := h
    refine ⟨_, (pss_one (ps_ret (pe_op op_sub (pe_callTy call_int1 rfl T.z_int bt_int (pa_cons (pe_cmpR op_gt (pv 0) pe_int (nomark _)) pa_nil)) (pe_callTy call_int1 rfl T.z_int bt_int (pa_cons (pe_cmpR op_lt (pv 0) pe_int (nomark _)) pa_nil))))), ?_⟩
    refine ⟨_, rfl, _, _, rfl, rfl, .inr ⟨_, rfl, _, rfl, _, _, rfl, rfl, .inr ⟨_, rfl, _, _, rfl, rfl, ?_⟩⟩⟩
    have e1 : ∀ p : Prop, [Decidable p] → (if decide p = true then (1 : Int) else 0) = if p then 1 else 0 := fun p _ => by by_cases h : p <;> simp [h]
    rw [e1, e1]
    exact q

/-! ### law -/
theorem cmp_sgn (x y : Int) : cmp2 x y = sgn (x - y) := by
  unfold cmp2 sgn
  by_cases h1 : x < y
  · rw [if_pos h1, if_neg (by omega), if_pos (by omega)]; rfl
  · by_cases h2 : y < x
    · rw [if_neg h1, if_pos h2, if_pos (by omega), if_neg (by omega)]; rfl
    · rw [if_neg h1, if_neg h2, if_neg (by omega), if_neg (by omega)]; rfl
theorem cmp_back (x y : Int) : cmp2 y x = -cmp2 x y := by
  unfold cmp2
  by_cases h1 : x < y
  · have h2 : ¬ y < x := by omega
    simp [h1, h2]
  · by_cases h2 : y < x
    · simp [h1, h2]
    · simp [h1, h2]
theorem cmp_self (x : Int) : cmp2 x x = 0 := by
  unfold cmp2
  rw [if_neg (by omega), if_neg (by omega)]
theorem floor_bounds (x y : Int) (h : 0 < y) : x / y * y ≤ x ∧ x < (x / y + 1) * y := by
  refine ⟨Int.ediv_mul_le x (by omega), ?_⟩
  have := Int.lt_ediv_add_one_mul_self x h
  exact this
/-- a pair that the law makes: at p, (u, v), v above 0, both of less than n bits -/
structure PairAt (K : PySem.W.Frag) (H : Hp) (p : Addr) (u v : Int) : Prop where
  at_ : SqT K H p [.int u, .int v]
  pos : 0 < v
  s1 : Sz 500 u
  s2 : Sz 500 v
theorem PairAt.same {H H' : Hp} {p : Addr} {u v : Int} (h : PairAt K H p u v) (s : Same H H') : PairAt K H' p u v := ⟨same_tup s h.at_, h.pos, h.s1, h.s2⟩
theorem low_pair {H : Hp} {p : Addr} {t b : Int} (h : H p = some (.tup [.int (low t b).1, .int (low t b).2])) (b0 : b ≠ 0) (h1 : Sz 500 t) (h2 : Sz 500 b) : PairAt K H p (low t b).1 (low t b).2 :=
  ⟨t_of h, low_pos b0, low_sz1 h1, low_sz2 h2⟩
/-- the state behind each of the three choices -/
def Mid (K : PySem.W.Frag) (l : Addr) (ns : List Int) (H : Hp) (σ : L2.St) (H' : Hp) : Prop := ∃ (p q : Addr) (a0 a1 b0 b1 : Int), σ = [some (.ref l), some (.int (1 + (if wide ns 1 < 0 then -wide ns 1 else wide ns 1))), some (.ref p), some (.ref q), none, none, none, none] ∧ Same H H' ∧ PairAt K H' p a0 a1 ∧ PairAt K H' q b0 b1
theorem ok_law (T : Txt K mg) : FnOk P w K mg base (L2.CX P w) 4 T.a_law T.fd_law ["script"] (sp_law K) := by
  refine T.F_law.ok sc_law (fun vs H Q E h => ?_) (fun cdv A outer s H vs Q E hr h => ?_)
  · obtain ⟨l, ns, rfl, _⟩ := h
    rfl
  · obtain ⟨l, ns, rfl, hs, hn, hb, q⟩ := h
    refine ⟨_, (pss_cons (ps_set (i := 1) sc_law.nd rfl (Or.inl rfl) (pe_op op_add pe_int (pe_callB call_abs rfl T.z_abs bt_abs (pa_cons (pe_callS (ok__law_wide T) (hr.mono (by decide)) rfl T.m__law_wide T.F__law_wide.kp T.b__law_wide (fun σ => passAt (takes_of rfl rfl rfl rfl) σ) (pa_cons (pv 0) (pa_cons pe_int pa_nil))) pa_nil))))
    (pss_cons (ps_set (i := 2) sc_law.nd rfl (Or.inl rfl) (pe_callS (ok__law_lowest T) (hr.mono (by decide)) rfl T.m__law_lowest T.F__law_lowest.kp T.b__law_lowest (fun σ => passAt (takes_of rfl rfl rfl rfl) σ) (pa_cons (pe_callS (ok__law_wide T) (hr.mono (by decide)) rfl T.m__law_wide T.F__law_wide.kp T.b__law_wide (fun σ => passAt (takes_of rfl rfl rfl rfl) σ) (pa_cons (pv 0) (pa_cons pe_int pa_nil))) (pa_cons (pv 1) pa_nil))))
    (pss_cons (ps_set (i := 3) sc_law.nd rfl (Or.inl rfl) (pe_callS (ok__law_lowest T) (hr.mono (by decide)) rfl T.m__law_lowest T.F__law_lowest.kp T.b__law_lowest (fun σ => passAt (takes_of rfl rfl rfl rfl) σ) (pa_cons (pe_callS (ok__law_wide T) (hr.mono (by decide)) rfl T.m__law_wide T.F__law_wide.kp T.b__law_wide (fun σ => passAt (takes_of rfl rfl rfl rfl) σ) (pa_cons (pv 0) (pa_cons pe_int pa_nil))) (pa_cons (pe_op op_add pe_int (pe_callB call_abs rfl T.z_abs bt_abs (pa_cons (pe_callS (ok__law_wide T) (hr.mono (by decide)) rfl T.m__law_wide T.F__law_wide.kp T.b__law_wide (fun σ => passAt (takes_of rfl rfl rfl rfl) σ) (pa_cons (pv 0) (pa_cons pe_int pa_nil))) pa_nil))) pa_nil))))
    (pss_cons (ps_cut (ps_if (pt_cmpR op_eq (pe_op op_mod (pe_callTy call_int1 rfl T.z_int bt_int (pa_cons (pe_callS (ok__law_cell T) (hr.mono (by decide)) rfl T.m__law_cell T.F__law_cell.kp T.b__law_cell (fun σ => passAt (takes_of rfl rfl rfl rfl) σ) (pa_cons (pv 0) (pa_cons pe_int pa_nil))) pa_nil)) pe_int) pe_int (nomark _)) (pss_one (ps_set (i := 3) sc_law.nd rfl (Or.inl rfl) (pv 2))) pss_nil))
    (pss_cons (ps_cut (ps_if (pt_cmpR op_eq (pe_op op_mod (pe_callTy call_int1 rfl T.z_int bt_int (pa_cons (pe_callS (ok__law_cell T) (hr.mono (by decide)) rfl T.m__law_cell T.F__law_cell.kp T.b__law_cell (fun σ => passAt (takes_of rfl rfl rfl rfl) σ) (pa_cons (pv 0) (pa_cons pe_int pa_nil))) pa_nil)) pe_int) pe_int (nomark _)) (pss_one (ps_set (i := 3) sc_law.nd rfl (Or.inl rfl) (pe_callS (ok__law_lowest T) (hr.mono (by decide)) rfl T.m__law_lowest T.F__law_lowest.kp T.b__law_lowest (fun σ => passAt (takes_of rfl rfl rfl rfl) σ) (pa_cons (pe_op op_sub (pe_op op_add (pe_callS (ok__law_wide T) (hr.mono (by decide)) rfl T.m__law_wide T.F__law_wide.kp T.b__law_wide (fun σ => passAt (takes_of rfl rfl rfl rfl) σ) (pa_cons (pv 0) (pa_cons pe_int pa_nil))) pe_int) (pe_op op_mod (pe_op op_fdivB (pe_callTy call_int1 rfl T.z_int bt_int (pa_cons (pe_callS (ok__law_cell T) (hr.mono (by decide)) rfl T.m__law_cell T.F__law_cell.kp T.b__law_cell (fun σ => passAt (takes_of rfl rfl rfl rfl) σ) (pa_cons (pv 0) (pa_cons pe_int pa_nil))) pa_nil)) pe_int) pe_int)) (pa_cons (pv 1) pa_nil))))) pss_nil))
    (pss_cons (ps_cut (ps_if (pt_cmpR op_eq (pe_op op_mod (pe_callTy call_int1 rfl T.z_int bt_int (pa_cons (pe_callS (ok__law_cell T) (hr.mono (by decide)) rfl T.m__law_cell T.F__law_cell.kp T.b__law_cell (fun σ => passAt (takes_of rfl rfl rfl rfl) σ) (pa_cons (pv 0) (pa_cons pe_int pa_nil))) pa_nil)) pe_int) pe_int (nomark _)) (pss_one (ps_set (i := 2) sc_law.nd rfl (Or.inl rfl) (pe_tup (pa_cons (pe_callS (ok__law_wide T) (hr.mono (by decide)) rfl T.m__law_wide T.F__law_wide.kp T.b__law_wide (fun σ => passAt (takes_of rfl rfl rfl rfl) σ) (pa_cons (pv 0) (pa_cons pe_int pa_nil))) (pa_cons pe_int pa_nil))))) pss_nil))
    (pss_cons (ps_set (i := 4) sc_law.nd rfl (Or.inl rfl) (pe_callS (ok_compare T) (hr.mono (by decide)) rfl T.m_compare T.F_compare.kp T.b_compare (fun σ => passAt (takes_of rfl rfl rfl rfl) σ) (pa_cons (pv 2) (pa_cons (pv 3) pa_nil))))
    (pss_cons (ps_set (i := 5) sc_law.nd rfl (Or.inl rfl) (pe_callS (ok_compare T) (hr.mono (by decide)) rfl T.m_compare T.F_compare.kp T.b_compare (fun σ => passAt (takes_of rfl rfl rfl rfl) σ) (pa_cons (pv 3) (pa_cons (pv 2) pa_nil))))
    (pss_cons (ps_if (PW.pt (pw_or (pt_not (pt_val (pe_callS (ok__law_whole T) (hr.mono (by decide)) rfl T.m__law_whole T.F__law_whole.kp T.b__law_whole (fun σ => passAt (takes_of rfl rfl rfl rfl) σ) (pa_cons (pv 4) pa_nil)))) (pw_or1 (pt_not (pt_val (pe_callS (ok__law_whole T) (hr.mono (by decide)) rfl T.m__law_whole T.F__law_whole.kp T.b__law_whole (fun σ => passAt (takes_of rfl rfl rfl rfl) σ) (pa_cons (pv 5) pa_nil))))))) (pss_one (ps_ret pe_bl)) pss_nil)
    (pss_cons (ps_if (PW.pt (pw_or (pt_cmpR op_ne (pv 4) (pe_callS (ok__law_sign T) (hr.mono (by decide)) rfl T.m__law_sign T.F__law_sign.kp T.b__law_sign (fun σ => passAt (takes_of rfl rfl rfl rfl) σ) (pa_cons (pe_op op_sub (pe_op op_mulB (pe_ix ix_seq (pv 2) pe_int (fun _ _ => rfl)) (pe_ix ix_seq (pv 3) pe_int (fun _ _ => rfl))) (pe_op op_mulB (pe_ix ix_seq (pv 3) pe_int (fun _ _ => rfl)) (pe_ix ix_seq (pv 2) pe_int (fun _ _ => rfl)))) pa_nil)) (nomark _)) (pw_or (pt_cmpR op_ne (pv 5) (pe_un un_neg (pv 4)) (nomark _)) (pw_or1 (pt_cmpR op_ne (pe_callS (ok_compare T) (hr.mono (by decide)) rfl T.m_compare T.F_compare.kp T.b_compare (fun σ => passAt (takes_of rfl rfl rfl rfl) σ) (pa_cons (pv 2) (pa_cons (pv 2) pa_nil))) pe_int (nomark _)))))) (pss_one (ps_ret pe_bl)) pss_nil)
    (pss_cons (ps_for (passes_of rfl) rfl (pi_list (pe_lst (pa_cons (pv 2) (pa_cons (pv 3) pa_nil)))) (pg_name (i := 6) sc_law.nd rfl (Or.inl rfl))
      (pss_cons (ps_set (i := 7) sc_law.nd rfl (Or.inl rfl) (pe_callS (ok_floor_of T) (hr.mono (by decide)) rfl T.m_floor_of T.F_floor_of.kp T.b_floor_of (fun σ => passAt (takes_of rfl rfl rfl rfl) σ) (pa_cons (pv 6) pa_nil)))
      (pss_one (ps_if (PW.pt (pw_or (pt_not (pt_val (pe_callS (ok__law_whole T) (hr.mono (by decide)) rfl T.m__law_whole T.F__law_whole.kp T.b__law_whole (fun σ => passAt (takes_of rfl rfl rfl rfl) σ) (pa_cons (pv 7) pa_nil)))) (pw_or1 (pt_not (pt_chain op_le op_lt (pe_op op_mulB (pv 7) (pe_ix ix_seq (pv 6) pe_int (fun _ _ => rfl))) (pe_ix ix_seq (pv 6) pe_int (fun _ _ => rfl)) (pe_op op_mulB (pe_op op_add (pv 7) pe_int) (pe_ix ix_seq (pv 6) pe_int (fun _ _ => rfl)))))))) (pss_one (ps_ret pe_bl)) pss_nil))))
    (pss_one (ps_ret pe_bl))))))))))))), ?_⟩
    have pos : ∀ j, 0 < 1 + (if wide ns j < 0 then -wide ns j else wide ns j) := fun j => by split <;> omega
    have psz : ∀ j, Sz 500 (1 + (if wide ns j < 0 then -wide ns j else wide ns j)) := fun j => ((Sz.mk (n := 1) (i := 1) (by decide)).add (wide_sz ns j).absv).mono (by decide)
    -- bottom, a, b
    walk_at "rd"
    refine ⟨_, _, 500, rfl, psz 1, by have := pos 1; omega, by decide, fun p1 H1 s1 n1 e1 => ?_⟩
    have A1 : PairAt K H1 p1 _ _ := low_pair e1 (by have := pos 1; omega) ((wide_sz ns 0).mono (by decide)) (psz 1)
    have hs1 := same_lst s1 hs
    walk_at "rd"
    refine ⟨_, _, 500, rfl, psz 3, by have := pos 3; omega, by decide, fun p2 H2 s2 n2 e2 => ?_⟩
    have B1 : PairAt K H2 p2 _ _ := low_pair e2 (by have := pos 3; omega) ((wide_sz ns 2).mono (by decide)) (psz 3)
    have hs2 := same_lst s2 hs1
    -- the three choices
    refine ⟨Mid K l ns H, ?_, ?_⟩
    · walk_at "rd"
      refine iteI (fun _ => ?_) (fun _ => ?_)
      · exact ⟨_, rfl, p1, p1, _, _, _, _, rfl, s1.trans s2, A1.same s2, A1.same s2⟩
      · exact ⟨p1, p2, _, _, _, _, rfl, s1.trans s2, A1.same s2, B1⟩
    rintro _ H3 ⟨p, q1, a0, a1, b0, b1, rfl, s3, A3, B3⟩
    have hs3 := same_lst s3 hs
    refine ⟨Mid K l ns H, ?_, ?_⟩
    · walk_at "rd"
      refine iteI (fun _ => ?_) (fun _ => ?_)
      · walk_at "rd"
        have z1 : Sz 500 (wide ns 0 + 1 - cell ns 4 / 4 % 3) := (((wide_sz ns 0).add (Sz.mk (n := 1) (i := 1) (by decide))).sub (Sz.mk (n := 2) (i := cell ns 4 / 4 % 3) (by omega))).mono (by decide)
        refine ⟨_, _, 500, rfl, psz 1, by have := pos 1; omega, by decide, fun p4 H4 s4 n4 e4 => ?_⟩
        exact ⟨p, p4, _, _, _, _, rfl, s3.trans s4, A3.same s4, low_pair e4 (by have := pos 1; omega) z1 (psz 1)⟩
      · exact ⟨p, q1, _, _, _, _, rfl, s3, A3, B3⟩
    rintro _ H5 ⟨p5, q5, a0, a1, b0, b1, rfl, s5, A5, B5⟩
    have hs5 := same_lst s5 hs
    refine ⟨Mid K l ns H, ?_, ?_⟩
    · walk_at "rd"
      refine iteI (fun _ => ?_) (fun _ => ?_)
      · walk_at "rd"
        refine ⟨by show 2 ≤ sizeLine; decide, fun p6 n6 => ?_⟩
        have s6 := same_new (o := .tup [.int (wide ns 0), .int 1]) (Same.refl H5) n6
        exact ⟨p6, q5, _, _, _, _, rfl, s5.trans s6, ⟨t_of upd_same, by decide, (wide_sz ns 0).mono (by decide), ⟨by decide⟩⟩, B5.same s6⟩
      · exact ⟨p5, q5, _, _, _, _, rfl, s5, A5, B5⟩
    rintro _ H6 ⟨p, q1, a0, a1, b0, b1, rfl, s6, A, B⟩
    have cAB : CM a0 b1 := CM.of A.s1 B.s2
    have cBA : CM b0 a1 := CM.of B.s1 A.s2
    have cAA : CM a0 a1 := CM.of A.s1 A.s2
    have hA := A.at_
    have hB := B.at_
    have hA1 := A.s1; have hA2 := A.s2; have hB1 := B.s1; have hB2 := B.s2
    -- told, back
    refine ⟨_, rfl, _, rfl, p, q1, a0, a1, b0, b1, rfl, A.at_, B.at_, cAB, cBA, ?_⟩
    refine ⟨_, rfl, _, rfl, q1, p, b0, b1, a0, a1, rfl, B.at_, A.at_, cBA, cAB, ?_⟩
    walk_at "rd"
    refine iteIN (fun h => (h (cmp_sgn _ _)).elim) (fun _ => ?_)
    walk_at "rd"
    refine iteIN (fun h => (h (cmp_back _ _)).elim) (fun _ => ?_)
    refine ⟨_, rfl, _, rfl, p, p, a0, a1, a0, a1, rfl, A.at_, A.at_, cAA, cAA, ?_⟩
    walk_at "rd"
    refine iteIN (fun h => (h (cmp_self _)).elim) (fun _ => ?_)
    -- the floors
    refine ⟨_, rfl, _, rfl, by show 2 ≤ sizeLine; decide, fun p7 n7 => ⟨p7, rfl, ⟨_, l_of upd_same⟩, ?_⟩⟩
    have s7 := same_new (o := .lst [.ref p, .ref q1]) (Same.refl H6) n7
    refine for_list (K := K) (a := p7) (xs := [.ref p, .ref q1]) (fun i σ H' => ∃ (v1 v2 v3 v4 : V) (u u' : Option V), σ = [some v1, some v2, some (.ref p), some (.ref q1), some v3, some v4, u, u'] ∧ H' = upd H6 p7 (.lst [.ref p, .ref q1]))
      ⟨_, _, _, _, _, _, rfl, rfl⟩ (fun i σ H' _ ⟨_, _, _, _, _, _, _, e⟩ => by rw [e]; exact l_of upd_same) ?_ ?_
    · rintro i y σ H' hi ⟨v1, v2, v3, v4, u, u', rfl, rfl⟩
      obtain ⟨r, c0, c1, rfl, C⟩ : ∃ (r : Addr) (c0 c1 : Int), y = .ref r ∧ PairAt K (upd H6 p7 (.lst [.ref p, .ref q1])) r c0 c1 := by
        match i, hi with
        | 0, hi => exact ⟨p, a0, a1, (Option.some.inj hi).symm, A.same s7⟩
        | 1, hi => exact ⟨q1, b0, b1, (Option.some.inj hi).symm, B.same s7⟩
        | n + 2, hi => simp at hi
      have hC := C.at_
      have hC1 := C.s1; have hC2 := C.s2
      refine ⟨_, rfl, r, c0, c1, rfl, C.at_, CD.of C.pos C.s2, ?_⟩
      walk_at "rd"
      refine iteD (fun _ => ?_) (fun h => (h (floor_bounds c0 c1 C.pos).1).elim)
      walk_at "rd"
      refine iteDN (fun h => (h (floor_bounds c0 c1 C.pos).2).elim) (fun _ => ?_)
      exact ⟨_, _, _, _, _, _, rfl, rfl⟩
    · rintro σ H' ⟨v1, v2, v3, v4, u, u', rfl, rfl⟩
      exact q _

end
theorem all_mk {P : Program} {w : World} {K : PySem.W.Frag} {h : Heap} {mg : Str → Option Value} {fa : Addr} (X : K.In h) (G : h.Ns mainGlobals mg) (hfa : mg "law" = some (.ref fa))
    {f_compare : Addr} {oc_compare kV_compare dc_compare pm_compare cd_compare ct_compare : Value} {od_compare an_compare : Option Addr} {sl_compare : Array (Option Value)}
    {f_floor_of : Addr} {oc_floor_of kV_floor_of dc_floor_of pm_floor_of cd_floor_of ct_floor_of : Value} {od_floor_of an_floor_of : Option Addr} {sl_floor_of : Array (Option Value)}
    {f__law_cell : Addr} {oc__law_cell kV__law_cell dc__law_cell pm__law_cell cd__law_cell ct__law_cell : Value} {od__law_cell an__law_cell : Option Addr} {sl__law_cell : Array (Option Value)}
    {f__law_wide : Addr} {oc__law_wide kV__law_wide dc__law_wide pm__law_wide cd__law_wide ct__law_wide : Value} {od__law_wide an__law_wide : Option Addr} {sl__law_wide : Array (Option Value)}
    {f__law_whole : Addr} {oc__law_whole kV__law_whole dc__law_whole pm__law_whole cd__law_whole ct__law_whole : Value} {od__law_whole an__law_whole : Option Addr} {sl__law_whole : Array (Option Value)}
    {f__law_gcd : Addr} {oc__law_gcd kV__law_gcd dc__law_gcd pm__law_gcd cd__law_gcd ct__law_gcd : Value} {od__law_gcd an__law_gcd : Option Addr} {sl__law_gcd : Array (Option Value)}
    {f__law_lowest : Addr} {oc__law_lowest kV__law_lowest dc__law_lowest pm__law_lowest cd__law_lowest ct__law_lowest : Value} {od__law_lowest an__law_lowest : Option Addr} {sl__law_lowest : Array (Option Value)}
    {f__law_sign : Addr} {oc__law_sign kV__law_sign dc__law_sign pm__law_sign cd__law_sign ct__law_sign : Value} {od__law_sign an__law_sign : Option Addr} {sl__law_sign : Array (Option Value)}
    {f_law : Addr} {oc_law kV_law dc_law pm_law cd_law ct_law : Value} {od_law an_law : Option Addr} {sl_law : Array (Option Value)}
    (a_compare : PySem.W.nsIn K mainGlobals "compare" = some (some (.ref f_compare)))
    (l_compare : K.lookup f_compare = some ⟨oc_compare, od_compare, .func (PySem.W.fnOf "compare" "compare" (defArgs s_compare) (defBody s_compare) (defScope s_compare) .none kV_compare dc_compare pm_compare an_compare cd_compare ct_compare), sl_compare⟩)
    (c_compare : PySem.W.codeIn K cd_compare "compare" = true)
    (k_compare : PySem.W.keepIn K (.ref f_compare) = true)
    (a_floor_of : PySem.W.nsIn K mainGlobals "floor_of" = some (some (.ref f_floor_of)))
    (l_floor_of : K.lookup f_floor_of = some ⟨oc_floor_of, od_floor_of, .func (PySem.W.fnOf "floor_of" "floor_of" (defArgs s_floor_of) (defBody s_floor_of) (defScope s_floor_of) .none kV_floor_of dc_floor_of pm_floor_of an_floor_of cd_floor_of ct_floor_of), sl_floor_of⟩)
    (c_floor_of : PySem.W.codeIn K cd_floor_of "floor_of" = true)
    (k_floor_of : PySem.W.keepIn K (.ref f_floor_of) = true)
    (a__law_cell : PySem.W.nsIn K mainGlobals "_law_cell" = some (some (.ref f__law_cell)))
    (l__law_cell : K.lookup f__law_cell = some ⟨oc__law_cell, od__law_cell, .func (PySem.W.fnOf "_law_cell" "_law_cell" (defArgs s__law_cell) (defBody s__law_cell) (defScope s__law_cell) .none kV__law_cell dc__law_cell pm__law_cell an__law_cell cd__law_cell ct__law_cell), sl__law_cell⟩)
    (c__law_cell : PySem.W.codeIn K cd__law_cell "_law_cell" = true)
    (k__law_cell : PySem.W.keepIn K (.ref f__law_cell) = true)
    (a__law_wide : PySem.W.nsIn K mainGlobals "_law_wide" = some (some (.ref f__law_wide)))
    (l__law_wide : K.lookup f__law_wide = some ⟨oc__law_wide, od__law_wide, .func (PySem.W.fnOf "_law_wide" "_law_wide" (defArgs s__law_wide) (defBody s__law_wide) (defScope s__law_wide) .none kV__law_wide dc__law_wide pm__law_wide an__law_wide cd__law_wide ct__law_wide), sl__law_wide⟩)
    (c__law_wide : PySem.W.codeIn K cd__law_wide "_law_wide" = true)
    (k__law_wide : PySem.W.keepIn K (.ref f__law_wide) = true)
    (a__law_whole : PySem.W.nsIn K mainGlobals "_law_whole" = some (some (.ref f__law_whole)))
    (l__law_whole : K.lookup f__law_whole = some ⟨oc__law_whole, od__law_whole, .func (PySem.W.fnOf "_law_whole" "_law_whole" (defArgs s__law_whole) (defBody s__law_whole) (defScope s__law_whole) .none kV__law_whole dc__law_whole pm__law_whole an__law_whole cd__law_whole ct__law_whole), sl__law_whole⟩)
    (c__law_whole : PySem.W.codeIn K cd__law_whole "_law_whole" = true)
    (k__law_whole : PySem.W.keepIn K (.ref f__law_whole) = true)
    (a__law_gcd : PySem.W.nsIn K mainGlobals "_law_gcd" = some (some (.ref f__law_gcd)))
    (l__law_gcd : K.lookup f__law_gcd = some ⟨oc__law_gcd, od__law_gcd, .func (PySem.W.fnOf "_law_gcd" "_law_gcd" (defArgs s__law_gcd) (defBody s__law_gcd) (defScope s__law_gcd) .none kV__law_gcd dc__law_gcd pm__law_gcd an__law_gcd cd__law_gcd ct__law_gcd), sl__law_gcd⟩)
    (c__law_gcd : PySem.W.codeIn K cd__law_gcd "_law_gcd" = true)
    (k__law_gcd : PySem.W.keepIn K (.ref f__law_gcd) = true)
    (a__law_lowest : PySem.W.nsIn K mainGlobals "_law_lowest" = some (some (.ref f__law_lowest)))
    (l__law_lowest : K.lookup f__law_lowest = some ⟨oc__law_lowest, od__law_lowest, .func (PySem.W.fnOf "_law_lowest" "_law_lowest" (defArgs s__law_lowest) (defBody s__law_lowest) (defScope s__law_lowest) .none kV__law_lowest dc__law_lowest pm__law_lowest an__law_lowest cd__law_lowest ct__law_lowest), sl__law_lowest⟩)
    (c__law_lowest : PySem.W.codeIn K cd__law_lowest "_law_lowest" = true)
    (k__law_lowest : PySem.W.keepIn K (.ref f__law_lowest) = true)
    (a__law_sign : PySem.W.nsIn K mainGlobals "_law_sign" = some (some (.ref f__law_sign)))
    (l__law_sign : K.lookup f__law_sign = some ⟨oc__law_sign, od__law_sign, .func (PySem.W.fnOf "_law_sign" "_law_sign" (defArgs s__law_sign) (defBody s__law_sign) (defScope s__law_sign) .none kV__law_sign dc__law_sign pm__law_sign an__law_sign cd__law_sign ct__law_sign), sl__law_sign⟩)
    (c__law_sign : PySem.W.codeIn K cd__law_sign "_law_sign" = true)
    (k__law_sign : PySem.W.keepIn K (.ref f__law_sign) = true)
    (a_law : PySem.W.nsIn K mainGlobals "law" = some (some (.ref f_law)))
    (l_law : K.lookup f_law = some ⟨oc_law, od_law, .func (PySem.W.fnOf "law" "law" (defArgs s_law) (defBody s_law) (defScope s_law) .none kV_law dc_law pm_law an_law cd_law ct_law), sl_law⟩)
    (c_law : PySem.W.codeIn K cd_law "law" = true)
    (k_law : PySem.W.keepIn K (.ref f_law) = true)
    (z_len : PySem.W.nsIn K mainGlobals "len" = some none)
    (z_int : PySem.W.nsIn K mainGlobals "int" = some none)
    (z_isinstance : PySem.W.nsIn K mainGlobals "isinstance" = some none)
    (z_bool : PySem.W.nsIn K mainGlobals "bool" = some none)
    (z_abs : PySem.W.nsIn K mainGlobals "abs" = some none)
    (z_range : PySem.W.nsIn K mainGlobals "range" = some none)
    : ∃ fd : FuncData, (∀ (s : Shared) (u : Value), BindsTo s fd ⟨[u], []⟩ [("script", u)]) ∧ ∀ base : Heap, K.In base → base.Ns mainGlobals mg → FnOk P w K mg base (L2.CX P w) 4 fa fd ["script"] (sp_law K) := by
  let T : Txt K mg := {
    a_compare := f_compare, fd_compare := _, F_compare := fun_of l_compare c_compare k_compare, m_compare := PySem.W.mg_of X G a_compare, b_compare := (fun_of l_compare c_compare k_compare).bindsN fun _ _ _ _ _ _ us hl => match us, hl with | [_, _], _ => rfl,
    a_floor_of := f_floor_of, fd_floor_of := _, F_floor_of := fun_of l_floor_of c_floor_of k_floor_of, m_floor_of := PySem.W.mg_of X G a_floor_of, b_floor_of := (fun_of l_floor_of c_floor_of k_floor_of).bindsN fun _ _ _ _ _ _ us hl => match us, hl with | [_], _ => rfl,
    a__law_cell := f__law_cell, fd__law_cell := _, F__law_cell := fun_of l__law_cell c__law_cell k__law_cell, m__law_cell := PySem.W.mg_of X G a__law_cell, b__law_cell := (fun_of l__law_cell c__law_cell k__law_cell).bindsN fun _ _ _ _ _ _ us hl => match us, hl with | [_, _], _ => rfl,
    a__law_wide := f__law_wide, fd__law_wide := _, F__law_wide := fun_of l__law_wide c__law_wide k__law_wide, m__law_wide := PySem.W.mg_of X G a__law_wide, b__law_wide := (fun_of l__law_wide c__law_wide k__law_wide).bindsN fun _ _ _ _ _ _ us hl => match us, hl with | [_, _], _ => rfl,
    a__law_whole := f__law_whole, fd__law_whole := _, F__law_whole := fun_of l__law_whole c__law_whole k__law_whole, m__law_whole := PySem.W.mg_of X G a__law_whole, b__law_whole := (fun_of l__law_whole c__law_whole k__law_whole).bindsN fun _ _ _ _ _ _ us hl => match us, hl with | [_], _ => rfl,
    a__law_gcd := f__law_gcd, fd__law_gcd := _, F__law_gcd := fun_of l__law_gcd c__law_gcd k__law_gcd, m__law_gcd := PySem.W.mg_of X G a__law_gcd, b__law_gcd := (fun_of l__law_gcd c__law_gcd k__law_gcd).bindsN fun _ _ _ _ _ _ us hl => match us, hl with | [_, _], _ => rfl,
    a__law_lowest := f__law_lowest, fd__law_lowest := _, F__law_lowest := fun_of l__law_lowest c__law_lowest k__law_lowest, m__law_lowest := PySem.W.mg_of X G a__law_lowest, b__law_lowest := (fun_of l__law_lowest c__law_lowest k__law_lowest).bindsN fun _ _ _ _ _ _ us hl => match us, hl with | [_, _], _ => rfl,
    a__law_sign := f__law_sign, fd__law_sign := _, F__law_sign := fun_of l__law_sign c__law_sign k__law_sign, m__law_sign := PySem.W.mg_of X G a__law_sign, b__law_sign := (fun_of l__law_sign c__law_sign k__law_sign).bindsN fun _ _ _ _ _ _ us hl => match us, hl with | [_], _ => rfl,
    a_law := f_law, fd_law := _, F_law := fun_of l_law c_law k_law, m_law := PySem.W.mg_of X G a_law, b_law := (fun_of l_law c_law k_law).bindsN fun _ _ _ _ _ _ us hl => match us, hl with | [_], _ => rfl,
    z_len := PySem.W.mg_none_of X G z_len,
    z_int := PySem.W.mg_none_of X G z_int,
    z_isinstance := PySem.W.mg_none_of X G z_isinstance,
    z_bool := PySem.W.mg_none_of X G z_bool,
    z_abs := PySem.W.mg_none_of X G z_abs,
    z_range := PySem.W.mg_none_of X G z_range }
  have e := hfa.symm.trans T.m_law
  cases e
  exact ⟨_, fun s u => T.F_law.bindsA (ps := ["script"]) (fun _ _ _ _ _ _ us hl => match us, hl with | [_], _ => rfl) s [u] rfl, fun base _ _ => (ok_law T).mono (by decide)⟩
end My
open PySem PySem.W PyProof.Rows
set_option maxRecDepth 100000 in
set_option maxHeartbeats 0 in
theorem PySem.Challenge.cw_lendbook_k06_ratios_are_compared_holds : PySem.Challenge.rw_lendbook_k06_ratios_are_compared.Holds := by
  w_on; o_law; k_head; (case hw => w_witness2)
  k_fill
  refine LB.walk (l := PySem.Challenge.rw_lendbook_k06_ratios_are_compared) (k := 4) rfl rfl ⟨rfl, by decide, by decide⟩ (fun w h Y => PySem.W.kIn_of Y) ?F
  case F =>
    intro w mg fa h KX G hmg
    refine' My.all_mk KX G hmg ?a_compare ?l_compare ?c_compare ?k_compare ?a_floor_of ?l_floor_of ?c_floor_of ?k_floor_of ?a__law_cell ?l__law_cell ?c__law_cell ?k__law_cell ?a__law_wide ?l__law_wide ?c__law_wide ?k__law_wide ?a__law_whole ?l__law_whole ?c__law_whole ?k__law_whole ?a__law_gcd ?l__law_gcd ?c__law_gcd ?k__law_gcd ?a__law_lowest ?l__law_lowest ?c__law_lowest ?k__law_lowest ?a__law_sign ?l__law_sign ?c__law_sign ?k__law_sign ?a_law ?l_law ?c_law ?k_law ?z_len ?z_int ?z_isinstance ?z_bool ?z_abs ?z_range
    (case a_compare => k_is)
    (case l_compare => k_is)
    (case c_compare => k_is)
    (case k_compare => k_is)
    (case a_floor_of => k_is)
    (case l_floor_of => k_is)
    (case c_floor_of => k_is)
    (case k_floor_of => k_is)
    (case a__law_cell => k_is)
    (case l__law_cell => k_is)
    (case c__law_cell => k_is)
    (case k__law_cell => k_is)
    (case a__law_wide => k_is)
    (case l__law_wide => k_is)
    (case c__law_wide => k_is)
    (case k__law_wide => k_is)
    (case a__law_whole => k_is)
    (case l__law_whole => k_is)
    (case c__law_whole => k_is)
    (case k__law_whole => k_is)
    (case a__law_gcd => k_is)
    (case l__law_gcd => k_is)
    (case c__law_gcd => k_is)
    (case k__law_gcd => k_is)
    (case a__law_lowest => k_is)
    (case l__law_lowest => k_is)
    (case c__law_lowest => k_is)
    (case k__law_lowest => k_is)
    (case a__law_sign => k_is)
    (case l__law_sign => k_is)
    (case c__law_sign => k_is)
    (case k__law_sign => k_is)
    (case a_law => k_is)
    (case l_law => k_is)
    (case c_law => k_is)
    (case k_law => k_is)
    (case z_len => k_is)
    (case z_int => k_is)
    (case z_isinstance => k_is)
    (case z_bool => k_is)
    (case z_abs => k_is)
    (case z_range => k_is)
