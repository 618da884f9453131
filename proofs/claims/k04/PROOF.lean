import PyProof.Rows.All
import Wide.All
import OpenK.AllK
import Wide.FinOn
import HandS.ForExc
import HandS.Comp
import HandS.Defaults
import HandS.IsInst
import HandS.Wide
import HandS.EndBits
import HandS.TryMany
import HandS.ExcField
import HandS.ExcInit
import HandS.Evl
import HandS.Gcd
import HandS.Nested
import HandS.FStr
import KE.KExcSuper
import HandS.ExcIs
import HandS.Text
import HandS.Iter
import KE.IntTextLaws
import HandS.WideBits
import HandS.Style
import HandS.StrMore
import PyProof.Rows.StrPadFill
import PyProof.Rows.StrCut
import PySem.Challenge.RW_lendbook_k04_ratios_in_lowest_terms
set_option Elab.async false
set_option linter.all false
set_option maxRecDepth 100000
set_option maxHeartbeats 4000000
/-! own small rules over the hand layer -/
namespace LB
open PySem PySem.Spec PyProof.Rows L2
theorem bt_int : bootBuiltins "int" = some (.type "int") := by decide +kernel
theorem bt_bool : bootBuiltins "bool" = some (.type "bool") := by decide +kernel
theorem bt_str : bootBuiltins "str" = some (.type "str") := by decide +kernel
theorem bt_list : bootBuiltins "list" = some (.type "list") := by decide +kernel
theorem bt_tuple : bootBuiltins "tuple" = some (.type "tuple") := by decide +kernel
theorem bt_dict : bootBuiltins "dict" = some (.type "dict") := by decide +kernel
theorem bt_set : bootBuiltins "set" = some (.type "set") := by decide +kernel
theorem bt_range : bootBuiltins "range" = some (.type "range") := by decide +kernel
theorem bt_len : bootBuiltins "len" = some (.builtin "len") := by decide +kernel
theorem bt_abs : bootBuiltins "abs" = some (.builtin "abs") := by decide +kernel
theorem bt_isinstance : bootBuiltins "isinstance" = some (.builtin "isinstance") := by decide +kernel
theorem bt_sum : bootBuiltins "sum" = some (.builtin "sum") := by decide +kernel
theorem bt_min : bootBuiltins "min" = some (.builtin "min") := by decide +kernel
theorem bt_max : bootBuiltins "max" = some (.builtin "max") := by decide +kernel
theorem bt_sorted : bootBuiltins "sorted" = some (.builtin "sorted") := by decide +kernel
theorem bt_divmod : bootBuiltins "divmod" = some (.builtin "divmod") := by decide +kernel
theorem bt_any : bootBuiltins "any" = some (.builtin "any") := by decide +kernel
theorem bt_ValueError : bootBuiltins "ValueError" = some (.type "ValueError") := by decide +kernel
theorem bt_all : bootBuiltins "all" = some (.builtin "all") := by decide +kernel

/-! ### sizes of ints: i lies within n bits -/
structure Sz (n : Nat) (i : Int) : Prop where
  lt : i.natAbs < 2 ^ n
theorem Sz.log {n : Nat} {i : Int} (h : Sz n i) : i.natAbs.log2 ≤ n := by
  by_cases h0 : i.natAbs = 0
  · rw [h0]; exact Nat.zero_le _
  · exact Nat.le_of_lt ((Nat.log2_lt h0).mpr h.lt)
theorem Sz.zero (n : Nat) : Sz n 0 := ⟨Nat.pow_pos (by decide)⟩
theorem Sz.mono {m n : Nat} {i : Int} (h : Sz m i) (l : m ≤ n) : Sz n i := ⟨Nat.lt_of_lt_of_le h.lt (Nat.pow_le_pow_right (by decide) l)⟩
theorem Sz.add {m n : Nat} {i j : Int} (a : Sz m i) (b : Sz n j) : Sz (m + n + 1) (i + j) := by
  refine ⟨Nat.lt_of_le_of_lt (Int.natAbs_add_le i j) ?_⟩
  have h1 := (a.mono (Nat.le_add_right m n)).lt
  have h2 := (b.mono (Nat.le_add_left n m)).lt
  rw [Nat.pow_succ]
  omega
theorem Sz.neg {n : Nat} {i : Int} (a : Sz n i) : Sz n (-i) := ⟨by rw [Int.natAbs_neg]; exact a.lt⟩
theorem Sz.sub {m n : Nat} {i j : Int} (a : Sz m i) (b : Sz n j) : Sz (m + n + 1) (i - j) := by
  rw [Int.sub_eq_add_neg]
  exact a.add b.neg
theorem Sz.mul {m n : Nat} {i j : Int} (a : Sz m i) (b : Sz n j) : Sz (m + n) (i * j) := by
  refine ⟨?_⟩
  rw [Int.natAbs_mul, Nat.pow_add]
  exact Nat.mul_lt_mul'' a.lt b.lt
theorem Sz.le {n : Nat} {i j : Int} (a : Sz n j) (h : i.natAbs ≤ j.natAbs) : Sz n i := ⟨Nat.lt_of_le_of_lt h a.lt⟩
theorem Sz.div {n : Nat} {i j : Int} (a : Sz n i) : Sz n (i / j) := a.le (Int.natAbs_ediv_le_natAbs i j)
theorem Sz.mod {n : Nat} {i j : Int} (b : Sz n j) (h : 0 < j) : Sz n (i % j) := b.le (by
  have h1 := Int.emod_nonneg i (b := j) (by omega)
  have h2 := Int.emod_lt_of_pos i h
  omega)
theorem Sz.nn {n : Nat} {i j : Int} (b : Sz n j) (h0 : 0 ≤ i) (h : i ≤ j) : Sz n i := b.le (by omega)
theorem Sz.absv {n : Nat} {i : Int} (a : Sz n i) : Sz n (if i < 0 then -i else i) := by
  by_cases h : i < 0
  · rw [if_pos h]; exact a.neg
  · rw [if_neg h]; exact a
theorem Sz.bits {z : Int} {n : Nat} (h : Builtin.Int.intBits z ≤ n) : Sz n z := by
  refine ⟨?_⟩
  unfold Builtin.Int.intBits at h
  by_cases h0 : z = 0
  · subst h0
    exact Nat.pos_of_ne_zero (by simp)
  · have h1 : ¬ z.natAbs = 0 := by omega
    have h2 : z.natAbs.log2 + 1 ≤ n := by
      split at h
      · rename_i e
        first
          | exact absurd (by simpa using e) h0
          | omega
      · exact h
    exact (Nat.log2_lt h1).mp (by omega)

/-! ### products and quotients of any size -/
/-- a product that fits -/
def CM (i j : Int) : Prop := i.natAbs.log2 + j.natAbs.log2 < 134000000
theorem CM.ok {i j : Int} (h : CM i j) : IntMulOk i j := by
  have b : ∀ x : Int, Builtin.Int.intBits x ≤ x.natAbs.log2 + 1 := fun x => by
    unfold Builtin.Int.intBits
    split <;> omega
  have h1 := b i
  have h2 := b j
  have h3 : i.natAbs.log2 + j.natAbs.log2 < 134000000 := h
  have e := bitsLine_eq
  intro z
  have z2 := (Bool.and_eq_true_iff.mp z).2
  unfold Builtin.Int.intTooBig at z2
  have z3 := of_decide_eq_true z2
  rw [e] at z3
  omega
theorem CM.of {m n : Nat} {i j : Int} (a : Sz m i) (b : Sz n j) (h : m + n < 134000000 := by decide) : CM i j := by
  have h1 := a.log
  have h2 := b.log
  unfold CM
  omega
/-- a positive divisor of less than 9000 bits -/
def CD (_ j : Int) : Prop := 0 < j ∧ j.natAbs.log2 < 9000
theorem CD.of {n : Nat} {i j : Int} (h : 0 < j) (b : Sz n j) (hn : n < 9000 := by decide) : CD i j := ⟨h, Nat.lt_of_le_of_lt b.log hn⟩
theorem CM.of2 {m n : Nat} {i j : Int} (a : Sz m i) (b : Sz n j) (h : m + n < 134000000) : CM i j := CM.of a b h
theorem CD.of2 {n : Nat} {i j : Int} (b : Sz n j) (h : 0 < j) (hn : n < 9000) : CD i j := CD.of h b hn
theorem log2_mono {m n : Nat} (h : m ≤ n) : m.log2 ≤ n.log2 := by
  by_cases h0 : m = 0
  · rw [h0]; exact Nat.zero_le _
  · exact (Nat.le_log2 (by omega)).mpr (Nat.le_trans (Nat.log2_self_le h0) h)
theorem CM.rest {t b : Int} (c : CD t b) : CM 2 (t - t / b * b) := by
  obtain ⟨c1, c2⟩ := c
  have e : t - t / b * b = t % b := by
    have := Int.mul_ediv_add_emod t b
    rw [Int.mul_comm b] at this
    omega
  have h1 := Int.emod_nonneg t (b := b) (by omega)
  have h2 := Int.emod_lt_of_pos t c1
  have h3 := log2_mono (m := (t % b).natAbs) (n := b.natAbs) (by omega)
  show Nat.log2 2 + _ < _
  have h4 : Nat.log2 2 = 1 := by decide +kernel
  rw [e]
  omega
section
variable {X : Cx}
theorem op_mulB : OpR X (binaryOp .Mult) (rI CM fun i j => .int (i * j)) := opI fun _ _ _ _ _ _ _ hc q => mul_int q hc.ok
theorem op_fdivB : OpR X (binaryOp .FloorDiv) (rI CD fun i j => .int (i / j)) := op_fdivW
end

/-! ### the script's cells -/
def cell (ns : List Int) (i : Nat) : Int := ns.getD i 0
def Bits (ns : List Int) : Prop := ∀ z ∈ ns, Builtin.Int.intBits z ≤ 1048576
theorem cell_sz {ns : List Int} (h : Bits ns) (i : Nat) : Sz 1048576 (cell ns i) := by
  unfold cell
  rw [List.getD_eq_getElem?_getD]
  cases e : ns[i]? with
  | none => exact Sz.zero _
  | some z => exact Sz.bits (h z (List.mem_of_getElem? e))

theorem atI_map_cell {ns : List Int} {j : Nat} (h : j < ns.length) : atI (ns.map V.int) ((j : Nat) : Int) = some (V.int (cell ns j)) := by
  refine atI_nat ?_
  rw [List.getElem?_map, List.getElem?_eq_getElem h]
  unfold cell
  rw [List.getD_eq_getElem?_getD, List.getElem?_eq_getElem h]
  rfl
/-- the answer of isinstance(x, int) and not isinstance(x, bool), by the kind of x -/
def wholeV : V → Option Bool
  | .int _ => some true
  | .bl _ => some false
  | .str _ => some false
  | .non => some false
  | _ => none

/-! ### heaps that grow -/
theorem same_new {H H' : Hp} {p : Addr} {o : HO} (s : Same H H') (h : H' p = none) : Same H (upd H' p o) := fun b u e => by
  rw [upd_ne (ne_of_none (s b u e) h)]
  exact s b u e
theorem same_tup {K : PySem.W.Frag} {H H' : Hp} {a : Addr} {xs : List V} (e : Same H H') (h : SqT K H a xs) : SqT K H' a xs := Evl.ex_t e h
theorem same_lst {K : PySem.W.Frag} {H H' : Hp} {a : Addr} {xs : List V} (e : Same H H') (h : SqL K H a xs) : SqL K H' a xs := Evl.ex_l e h
theorem t_of {K : PySem.W.Frag} {H : Hp} {a : Addr} {xs : List V} (h : H a = some (.tup xs)) : SqT K H a xs := Or.inl (Or.inl h)
theorem l_of {K : PySem.W.Frag} {H : Hp} {a : Addr} {xs : List V} (h : H a = some (.lst xs)) : SqL K H a xs := Or.inl (Or.inl h)
theorem lst_upd {K : PySem.W.Frag} {H : Hp} {a p : Addr} {o : HO} {xs : List V} (e : H p = none) (h : SqL K H a xs) : SqL K (upd H p o) a xs := same_lst (same_new (Same.refl H) e) h
theorem tup_upd {K : PySem.W.Frag} {H : Hp} {a p : Addr} {o : HO} {xs : List V} (e : H p = none) (h : SqT K H a xs) : SqT K (upd H p o) a xs := same_tup (same_new (Same.refl H) e) h
/-- a law's promise: a list of at most 63 ints of at most 2^20 bits each is handed in, True comes out -/
def sp_law (K : PySem.W.Frag) : Sp := fun vs H Q _ => ∃ (a : Addr) (ns : List Int), vs = [.ref a] ∧ SqL K H a (ns.map V.int) ∧ ns.length ≤ 63 ∧ Bits ns ∧ ∀ H', Q (.bl true) H'
theorem passX {X : Cx} : Passes (L2.CX X.prog X.w) X E0 := fun _ _ _ _ _ _ _ h => by
  obtain ⟨_, _, _, _, _, _, _, _, _, _, _, _, z⟩ := h
  exact z.elim
theorem passXS {X : Cx} (σ : L2.St) : PassesAt (L2.CX X.prog X.w) X σ ((fun _ => E0 : L2.St → XK) σ) := fun _ _ _ _ _ _ h => by
  obtain ⟨_, _, _, _, _, _, _, _, _, _, _, _, z⟩ := h
  exact z.elim
theorem walk {l : PySem.W.OpenLaw} {k : Nat} {q : Program} {loose : List Str} {XP : (Str → Option Value) → Heap → Prop} {YP : World → Heap → Prop} {d : DefRec} {K : Params → PySem.W.Frag} (hn : l.most = some 63) (hdf : d.params.defaults = [])
    (hr : Room k callerA) (hY : ∀ (w : World) (h : Heap), YP w h → (K w.params).In h)
    (F : ∀ (w : World) (mg : Str → Option Value) (fa : Addr) (h : Heap), (K w.params).In h → h.Ns mainGlobals mg → mg d.name = some (.ref fa) →
      ∃ fd : FuncData, (∀ (s : Shared) (u : Value), BindsTo s fd ⟨[u], []⟩ [("script", u)]) ∧ ∀ base : Heap, (K w.params).In base → base.Ns mainGlobals mg → FnOk l.prog w (K w.params) mg base (L2.CX l.prog w) k fa fd ["script"] (sp_law (K w.params))) :
    PySem.W.WalkO q loose XP YP l.row.toRowW d [] (fun f vs => PySem.call f vs) :=
  L2.walk_ofB (n := 63) (k := k) (x := "script") (CX := fun w => L2.CX l.prog w) (sp := fun w => sp_law (K w.params)) hn (by decide) hdf hr hY F (fun _ _ a ns hl hb _ hS => ⟨a, ns, rfl, hS, hl, hb, fun _ => rfl⟩) fun _ _ _ _ _ h => by
    obtain ⟨_, _, _, _, _, _, _, _, _, _, _, _, z⟩ := h
    exact z.elim
/-- a def without defaults, as the top leaves it -/
theorem fun_of {K : PySem.W.Frag} {x qual : Str} {pa : Arguments} {bd : List Stmt} {sc : Scope} {f : Addr} {oc : Value} {od an : Option Addr} {osl : Array (Option Value)} {kV doc pm cdv ct : Value}
    (l : K.lookup f = some ⟨oc, od, .func (PySem.W.fnOf x qual pa bd sc .none kV doc pm an cdv ct), osl⟩) (c : PySem.W.codeIn K cdv qual = true) (k : PySem.W.keepIn K (.ref f) = true) :
    FunD K x qual pa bd sc [] [] f (PySem.W.fnOf x qual pa bd sc .none kV doc pm an cdv ct) := ⟨⟨oc, od, .none, kV, doc, pm, an, cdv, ct, osl, rfl, l, c, .inl ⟨rfl, rfl⟩, .inl rfl⟩, k⟩
/-! ### items by their place -/
section
variable {K : PySem.W.Frag} {H : Hp} {p : Addr} {xs : List V} {i : Int} {v : V} {Q : VK}
theorem ixT_go (h : SqT K H p xs) (e : atI xs i = some v) (q : Q v H) : rIxT K (.ref p) (.int i) H Q := ⟨p, xs, i, v, rfl, rfl, h, e, q⟩
theorem ixL_go (h : SqL K H p xs) (e : atI xs i = some v) (q : Q v H) : rIxL K (.ref p) (.int i) H Q := ⟨p, xs, i, v, rfl, rfl, h, e, q⟩
theorem ixUT_go (h : SqT K H p xs) (e : atI xs i = some v) (q : Q v H) : rIx K (.ref p) (.int i) H Q := .inr (.inl (ixT_go h e q))
theorem ixUL_go (h : SqL K H p xs) (e : atI xs i = some v) (q : Q v H) : rIx K (.ref p) (.int i) H Q := .inl (ixL_go h e q)
end
/-! ### ways -/
theorem iteD {p A B : Prop} [Decidable p] (h1 : p → A) (h2 : ¬ p → B) : if decide p = true then A else B := by
  by_cases h : p
  · rw [decide_eq_true h]; exact iteT (h1 h)
  · rw [decide_eq_false h]; exact iteF (h2 h)
theorem iteDN {p A B : Prop} [Decidable p] (h1 : ¬ p → A) (h2 : p → B) : if (!decide p) = true then A else B := by
  by_cases h : p
  · rw [decide_eq_true h]; exact iteF (h2 h)
  · rw [decide_eq_false h]; exact iteT (h1 h)
theorem iteI {x y : Int} {A B : Prop} (h1 : x = y → A) (h2 : x ≠ y → B) : if decide (V.int x = V.int y) = true then A else B :=
  iteD (fun h => h1 (V.int.inj h)) fun h => h2 fun e => h (congrArg V.int e)
theorem iteIN {x y : Int} {A B : Prop} (h1 : x ≠ y → A) (h2 : x = y → B) : if (!decide (V.int x = V.int y)) = true then A else B :=
  iteDN (fun h => h1 fun e => h (congrArg V.int e)) fun h => h2 (V.int.inj h)
theorem iteS {x y : Str} {A B : Prop} (h1 : x = y → A) (h2 : x ≠ y → B) : if decide (V.str x = V.str y) = true then A else B :=
  iteD (fun h => h1 (V.str.inj h)) fun h => h2 fun e => h (congrArg V.str e)
theorem iteSN {x y : Str} {A B : Prop} (h1 : x ≠ y → A) (h2 : x = y → B) : if (!decide (V.str x = V.str y)) = true then A else B :=
  iteDN (fun h => h1 fun e => h (congrArg V.str e)) fun h => h2 (V.str.inj h)
theorem iteLen {xs : List V} {y : Int} {A B : Prop} (e : ((xs.length : Nat) : Int) = y) (h : A) : if decide (V.int ((xs.length : Nat) : Int) = V.int y) = true then A else B := by
  subst e
  rw [decide_eq_true rfl]
  exact iteT h
theorem iteLenN {xs : List V} {y : Int} {A B : Prop} (e : ((xs.length : Nat) : Int) = y) (h : B) : if (!decide (V.int ((xs.length : Nat) : Int) = V.int y)) = true then A else B := by
  subst e
  rw [decide_eq_true rfl]
  exact iteF h
theorem iteB {b : Bool} {A B : Prop} (h1 : b = true → A) (h2 : b = false → B) : if b = true then A else B := by
  cases b
  · exact iteF (h2 rfl)
  · exact iteT (h1 rfl)
theorem iteBN {b : Bool} {A B : Prop} (h1 : b = false → A) (h2 : b = true → B) : if (!b) = true then A else B := by
  cases b
  · exact iteT (h1 rfl)
  · exact iteF (h2 rfl)
theorem q_int {Q : VK} {x y : Int} {H : Hp} (q : Q (.int x) H) (e : x = y) : Q (.int y) H := e ▸ q
theorem q_bl {Q : VK} {x y : Bool} {H : Hp} (q : Q (.bl x) H) (e : x = y) : Q (.bl y) H := e ▸ q
/-- a statement whose ways meet: P holds behind each of them -/
def tCut (t : TS) : TS := fun D σ H => ∃ W : L2.St → Hp → Prop, t { D with nx := W } σ H ∧ ∀ σ' H', W σ' H' → D.nx σ' H'
theorem ps_cut {X : Cx} {st : Stmt} {t : TS} (h : PS X st t) : PS X st (tCut t) := by
  refine ⟨fun pins s σ H D I hw => ?_⟩
  obtain ⟨W, h1, h2⟩ := hw
  refine thn (h.run pins s σ H _ I h1) fun f s' q => ?_
  cases f with
  | next =>
    obtain ⟨σ', H', I', q'⟩ := q
    exact ⟨σ', H', I', h2 σ' H' q'⟩
  | brk => exact q
  | cont => exact q
  | ret u => exact q
/-! ### what the top has written -/
def relB : V → Value → Bool
  | .non, .none => true
  | .bl b, .bool c => b == c
  | .int i, .int j _ => i == j
  | .str x, .str y _ => x == y
  | .ref a, .ref b => a == b
  | .ty n, .type m => n == m
  | _, _ => false
theorem relB_ok : ∀ {v : V} {u : Value}, relB v u = true → RelV v u
  | .non, .none, _ => rfl
  | .bl b, .bool c, h => by
    have e : b = c := by simpa [relB] using h
    rw [e]; exact rfl
  | .int i, .int j t, h => by
    have e : i = j := by simpa [relB] using h
    rw [e]; exact ⟨t, rfl⟩
  | .str x, .str y t, h => by
    have e : x = y := by simpa [relB] using h
    rw [e]; exact ⟨t, rfl⟩
  | .ref a, .ref b, h => by
    have e : a = b := by simpa [relB] using h
    rw [e]; exact rfl
  | .ty n, .type m, h => by
    have e : n = m := by simpa [relB] using h
    rw [e]; exact rfl
def valsB : List V → List Value → Bool
  | [], [] => true
  | v :: vs, u :: us => relB v u && valsB vs us
  | _, _ => false
theorem valsB_ok : ∀ {vs : List V} {us : List Value}, valsB vs us = true → Vals vs us
  | [], [], _ => .nil
  | v :: vs, u :: us, h => by
    have h2 := Bool.and_eq_true_iff.mp h
    exact .cons (relB_ok h2.1) (valsB_ok h2.2)
  | [], _ :: _, h => by cases h
  | _ :: _, [], h => by cases h
theorem tup_of {K : PySem.W.Frag} {H : Hp} {a : Addr} {od : Option Addr} {its : Array Value} {n : Nat} {sl : Array (Option Value)} {xs : List V} (l : K.lookup a = some ⟨.type "tuple", od, .seq its n, sl⟩) (v : valsB xs its.toList = true) (h : xs.length ≤ 1000 := by decide) : SqT K H a xs := by
  have r := valsB_ok v
  refine .inr ⟨_, its, n, l, rfl, rfl, ?_, r⟩
  have e : its.size = xs.length := by rw [r.length]; simp
  rw [e, sizeLine_eq]
  omega
/-- a def with defaults -/
theorem fun_ofD {K : PySem.W.Frag} {x qual : Str} {pa : Arguments} {bd : List Stmt} {sc : Scope} {f t : Addr} {oc : Value} {od an odt : Option Addr} {osl slt : Array (Option Value)} {kV doc pm cdv ct : Value} {its : Array Value} {n : Nat} {dvs : List V}
    (l : K.lookup f = some ⟨oc, od, .func (PySem.W.fnOf x qual pa bd sc (.ref t) kV doc pm an cdv ct), osl⟩) (c : PySem.W.codeIn K cdv qual = true) (k : PySem.W.keepIn K (.ref f) = true)
    (lt : K.lookup t = some ⟨.type "tuple", odt, .seq its n, slt⟩) (v : valsB dvs its.toList = true) (hd : dvs ≠ [] := by intro z; cases z) :
    FunD K x qual pa bd sc dvs [] f (PySem.W.fnOf x qual pa bd sc (.ref t) kV doc pm an cdv ct) := ⟨⟨oc, od, _, kV, doc, pm, an, cdv, ct, osl, rfl, l, c, .inr ⟨hd, t, _, its.toList, n, rfl, lt, by simp, valsB_ok v⟩, .inl rfl⟩, k⟩
section
variable {X : Cx} {CX : CXT} {k : Nat} {f : Addr} {fd : FuncData} {ps : List Str} {sp : Sp} {E : L2.St → XK} {x : Str} {p pos : Pos} {e : Expr} {es : List Expr} {t : TA} {dvs : List V}
def tCallD (sp : Sp) (dvs : List V) (E : L2.St → XK) (t : TA) : TE := fun σ H Q => t σ H fun vs H1 => sp (vs ++ dvs) H1 Q (E σ)
/-- f(e, ..), the defaults dvs fill up -/
theorem pe_callSD (F : FnOk X.prog X.w X.K X.mg X.base CX k f fd ps sp) (hr : Room k X.A) (hg : Gl X x) (hm : X.mg x = some (.ref f)) (hk : PySem.W.keepIn X.K (.ref f) = true) (hb : ∃ ds, Vals dvs ds ∧ Binds X.K fd ps ds) (hx : ∀ σ, PassesAt CX X σ (E σ))
    (ha : PA X (e :: es) t) (hdb : (x == ("__debug__" : Str)) = false := by decide) (he : starEach (e :: es) X.env = (false, eval e X.env) :: starEach es X.env := by rfl) (hpl : (backTo pos (starEach es X.env)).any (·.1) = false := by rfl) :
    PE X (.Call (.Name x p) (e :: es) [] pos) (tCallD sp dvs E t) := by
  obtain ⟨ds, hd, hb⟩ := hb
  refine ⟨fun pins s σ H Q I h => ?_⟩
  refine wpAny_Call_Name_kw (ld_glob I hg hm ?_ hdb)
  refine PySem.W.callWith_K (h₀ := X.base) I.ok.mod.kin hk (thn (ha.run pos pins s σ H _ I h) fun us s1 hh => ?_) he hpl
  obtain ⟨vs, H1, I1, r, q⟩ := hh
  have r2 : Vals (vs ++ dvs) (us ++ ds) := r.append hd
  refine ⟨I1.kIn, ?_⟩
  show wpAny _ _ (call (.ref f) us) _ _ _
  refine wpAny_call (codeAny_mono (F.run X.A X.stack s1 H1 ⟨us, []⟩ (us ++ ds) (vs ++ dvs) Q (E σ) hr I1.env0 (hb s1 us I1.kIn (r2.length.symm.trans (F.len _ _ _ _ q))) r2 q) fun rr s' hq => ?_)
  cases rr with
  | error e => exact hx σ pins H1 s1 e s' I1 hq
  | ok fl =>
    cases fl with
    | ret u => exact I1.after hq
    | next => exact False.elim hq
    | brk => exact False.elim hq
    | cont => exact False.elim hq
end
/-- one that stays behind a wall: nothing steps into it -/
structure Wall (p : Prop) : Prop where
  get : True → p
theorem wall {p : Prop} (h : p) : Wall p := ⟨fun _ => h⟩
theorem Wall.in_ {p q : Prop} (h : p → q) : Wall p → q := fun k => h (k.get trivial)
/-! ### == of flat lists and tuples -/
def pd : V → PyData
  | .bl b => .bool b
  | .int i => .int i
  | .str x => .str x
  | _ => .none
def okS (x : Str) : Bool := x.cps.toList.all fun c => Nat.blt c 0x110000
theorem okS_ok {x : Str} (h : okS x = true) : PyData.strOk x = true := by
  unfold PyData.strOk
  unfold okS at h
  rw [Array.all_toList] at h
  rw [← h]
  congr 1
  funext c
  show decide (c < 1114112) = Nat.blt c 1114112
  rw [Bool.eq_iff_iff, decide_eq_true_iff, Nat.blt_eq]
def flatS : V → Bool
  | .non => true
  | .bl _ => true
  | .int _ => true
  | .str x => okS x
  | _ => false
def eqL : List V → List V → Bool
  | [], [] => true
  | x :: xs, y :: ys => eqV x y && eqL xs ys
  | _, _ => false
theorem eqL_self : ∀ {xs : List V}, xs.all flatS = true → eqL xs xs = true
  | [], _ => rfl
  | x :: xs, h => by
    have h2 := Bool.and_eq_true_iff.mp (List.all_cons .. ▸ h)
    refine Bool.and_eq_true_iff.mpr ⟨?_, eqL_self h2.2⟩
    cases x <;> first | (exact absurd (show false = true from h2.1) Bool.false_ne_true) | simp [eqV]
theorem dp_pd {K : PySem.W.Frag} {H : Hp} : ∀ {x : V}, flatS x = true → Dp K H x (pd x)
  | .non, _ => .non
  | .bl b, _ => .bl b
  | .int i, _ => .int i
  | .str x, _ => .str x
  | .byt _, h => absurd (show false = true from h) Bool.false_ne_true
  | .flt _, h => absurd (show false = true from h) Bool.false_ne_true
  | .ref _, h => absurd (show false = true from h) Bool.false_ne_true
  | .ty _, h => absurd (show false = true from h) Bool.false_ne_true
theorem dpAll_pd {K : PySem.W.Frag} {H : Hp} : ∀ {xs : List V}, xs.all flatS = true → DpAll K H xs (xs.map pd)
  | [], _ => .nil
  | x :: xs, h => by
    have h2 := Bool.and_eq_true_iff.mp (List.all_cons .. ▸ h)
    exact .cons (dp_pd h2.1) (dpAll_pd h2.2)
theorem lay_pd : ∀ {x : V}, flatS x = true → (pd x).canLay0 = true ∧ (pd x).depth = 0 := fun {x} h => by
  cases x <;> first | (exact absurd (show false = true from h) Bool.false_ne_true) | (refine ⟨?_, ?_⟩ <;> simp only [pd, PyData.canLay0, PyData.depth]) 
  all_goals exact okS_ok h
theorem layAll_pd : ∀ {xs : List V}, xs.all flatS = true → PyData.canLayAll0 (xs.map pd) = true ∧ PyData.depthAll (xs.map pd) = 0
  | [], _ => ⟨by simp only [List.map, PyData.canLayAll0], by simp only [List.map, PyData.depthAll]⟩
  | x :: xs, h => by
    have h2 := Bool.and_eq_true_iff.mp (List.all_cons .. ▸ h)
    have a := lay_pd h2.1
    have b := layAll_pd h2.2
    simp only [List.map, PyData.canLayAll0, PyData.depthAll, a.1, a.2, b.1, b.2]
    decide
theorem shaped_pd {xs : List V} (h : xs.all flatS = true) : SeqAt.shaped (.tuple (xs.map pd)) = true ∧ SeqAt.shaped (.list (xs.map pd)) = true := by
  have a := layAll_pd h
  unfold SeqAt.shaped
  simp only [PyData.canLay0, PyData.depth, a.1, a.2]
  decide
theorem eqv_pd : ∀ {x y : V}, flatS x = true → flatS y = true → PyData.eqv (pd x) (pd y) = eqV x y := fun {x y} hx hy => by
  cases x <;> first | (exact absurd (show false = true from hx) Bool.false_ne_true) | skip
  all_goals cases y <;> first | (exact absurd (show false = true from hy) Bool.false_ne_true) | (simp only [pd, PyData.eqv, eqV])
theorem eqvAll_pd : ∀ {xs ys : List V}, xs.all flatS = true → ys.all flatS = true → PyData.eqvAll (xs.map pd) (ys.map pd) = eqL xs ys
  | [], [], _, _ => by simp only [List.map, PyData.eqvAll, eqL]
  | [], _ :: _, _, _ => by simp only [List.map, PyData.eqvAll, eqL]
  | _ :: _, [], _, _ => by simp only [List.map, PyData.eqvAll, eqL]
  | x :: xs, y :: ys, h, k => by
    have h2 := Bool.and_eq_true_iff.mp (List.all_cons .. ▸ h)
    have k2 := Bool.and_eq_true_iff.mp (List.all_cons .. ▸ k)
    simp only [List.map, PyData.eqvAll, eqL, eqv_pd h2.1 k2.1, eqvAll_pd h2.2 k2.2]
section
variable {K : PySem.W.Frag} {H : Hp} {a b : Addr} {xs ys : List V} {Q : VK}
theorem eqD_T (h1 : SqT K H a xs) (h2 : SqT K H b ys) (f1 : xs.all flatS = true) (f2 : ys.all flatS = true) (q : Q (.bl (eqL xs ys)) H) : rEqD K (.ref a) (.ref b) H Q := by
  refine ⟨_, _, .tup h1 (dpAll_pd f1), .tup h2 (dpAll_pd f2), (shaped_pd f1).1, (shaped_pd f2).1, ?_⟩
  simp only [PyData.eqv, eqvAll_pd f1 f2]
  exact q
theorem neD_T (h1 : SqT K H a xs) (h2 : SqT K H b ys) (f1 : xs.all flatS = true) (f2 : ys.all flatS = true) (q : Q (.bl (!eqL xs ys)) H) : rNeD K (.ref a) (.ref b) H Q := by
  refine ⟨_, _, .tup h1 (dpAll_pd f1), .tup h2 (dpAll_pd f2), (shaped_pd f1).1, (shaped_pd f2).1, ?_⟩
  simp only [PyData.eqv, eqvAll_pd f1 f2]
  exact q
theorem eqD_L (h1 : SqL K H a xs) (h2 : SqL K H b ys) (f1 : xs.all flatS = true) (f2 : ys.all flatS = true) (q : Q (.bl (eqL xs ys)) H) : rEqD K (.ref a) (.ref b) H Q := by
  refine ⟨_, _, .lst h1 (dpAll_pd f1), .lst h2 (dpAll_pd f2), (shaped_pd f1).2, (shaped_pd f2).2, ?_⟩
  simp only [PyData.eqv, eqvAll_pd f1 f2]
  exact q
theorem neD_L (h1 : SqL K H a xs) (h2 : SqL K H b ys) (f1 : xs.all flatS = true) (f2 : ys.all flatS = true) (q : Q (.bl (!eqL xs ys)) H) : rNeD K (.ref a) (.ref b) H Q := by
  refine ⟨_, _, .lst h1 (dpAll_pd f1), .lst h2 (dpAll_pd f2), (shaped_pd f1).2, (shaped_pd f2).2, ?_⟩
  simp only [PyData.eqv, eqvAll_pd f1 f2]
  exact q
/-- the same items: equal -/
theorem eqD_TT (h1 : SqT K H a xs) (h2 : SqT K H b ys) (e : xs = ys) (f : xs.all flatS = true) (q : Q (.bl true) H) : rEqD K (.ref a) (.ref b) H Q := by
  subst e
  exact eqD_T h1 h2 f f ((eqL_self f).symm ▸ q)
theorem neD_TT (h1 : SqT K H a xs) (h2 : SqT K H b ys) (e : xs = ys) (f : xs.all flatS = true) (q : Q (.bl false) H) : rNeD K (.ref a) (.ref b) H Q := by
  subst e
  exact neD_T h1 h2 f f (by rw [eqL_self f]; exact q)
theorem eqD_LL (h1 : SqL K H a xs) (h2 : SqL K H b ys) (e : xs = ys) (f : xs.all flatS = true) (q : Q (.bl true) H) : rEqD K (.ref a) (.ref b) H Q := by
  subst e
  exact eqD_L h1 h2 f f ((eqL_self f).symm ▸ q)
theorem neD_LL (h1 : SqL K H a xs) (h2 : SqL K H b ys) (e : xs = ys) (f : xs.all flatS = true) (q : Q (.bl false) H) : rNeD K (.ref a) (.ref b) H Q := by
  subst e
  exact neD_L h1 h2 f f (by rw [eqL_self f]; exact q)
end
/-! ### isinstance -/
theorem tyx_t {K : PySem.W.Frag} {H : Hp} {a : Addr} {xs : List V} (h : SqT K H a xs) : TyX K H (.ref a) (.type "tuple") := by
  rcases h with (h | ⟨o, h⟩) | ⟨o, its, n, h1, h2, _⟩
  · exact .base (.tup h)
  · exact .fTuple h
  · exact .kTuple h1 h2
theorem tyx_l {K : PySem.W.Frag} {H : Hp} {a : Addr} {xs : List V} (h : SqL K H a xs) : TyX K H (.ref a) (.type "list") := by
  rcases h with (h | ⟨o, h⟩) | ⟨o, its, n, h1, h2, _⟩
  · exact .base (.lst h)
  · exact .base (.frz h)
  · exact .kList h1 h2
@[irreducible] def rIs (K : PySem.W.Frag) : List V → Hp → VK → Prop := fun xs H Q => rIsi K xs H Q
theorem call_is {X : Cx} : CallR X (.builtin "isinstance") (rIs X.K) := fun pins s σ H xs us Q I r h => call_isi pins s σ H xs us Q I r (by unfold rIs at h; exact h)
theorem isi_go {K : PySem.W.Frag} {H : Hp} {x : V} {a b : String} {r : Bool} {Q : VK} (h : TyX K H x (.type a)) (k : kitB a b = some r) (q : Q (.bl r) H) : rIs K [x, .ty b] H Q := by
  unfold rIs
  exact ⟨_, _, _, _, r, rfl, .ty _, h, kit_ty k, q⟩
theorem not_pos {b : Bool} (h : b = false) : (!b) = true := by rw [h]; rfl
def any1 : List V → Prop := fun _ => True
/-! ### len -/
@[irreducible] def rLn (K : PySem.W.Frag) : List V → Hp → VK → Prop := fun xs H Q => ∃ p ys, xs = [.ref p] ∧ (SqL K H p ys ∨ SqT K H p ys) ∧ Q (.int ys.length) H
theorem call_ln {X : Cx} : CallR X (.builtin "len") (rLn X.K) := fun pins s σ H xs us Q I r h => call_len_seq pins s σ H xs us Q I r (by unfold rLn at h; exact h)
section
variable {K : PySem.W.Frag} {H : Hp} {p : Addr} {ys : List V} {Q : VK}
theorem ln_t (h : SqT K H p ys) (q : Q (.int ys.length) H) : rLn K [.ref p] H Q := by
  unfold rLn
  exact ⟨_, _, rfl, .inr h, q⟩
theorem ln_l (h : SqL K H p ys) (q : Q (.int ys.length) H) : rLn K [.ref p] H Q := by
  unfold rLn
  exact ⟨_, _, rfl, .inl h, q⟩
end
theorem same_set {H H' : Hp} {p : Addr} {o : HO} (s : Same H H') (h : H p = none) : Same H (upd H' p o) := fun b u e => by
  have hb : b ≠ p := fun z => by
    rw [z, h] at e
    cases e
  rw [upd_ne hb]
  exact s b u e
theorem map_len {α : Type} {f : α → V} {xs : List α} : (((xs.map f).length : Nat) : Int) = ((xs.length : Nat) : Int) := by rw [List.length_map]
theorem range_snoc {f : Nat → Int} {i : Nat} {y : Int} (e : f i = y) : ((List.range i).map f).map V.int ++ [V.int y] = ((List.range (i + 1)).map f).map V.int := by
  subst e
  rw [List.range_succ, List.map_append, List.map_append]
  rfl
theorem atI_map {ns : List Int} {j : Nat} (h : j < ns.length) : atI (ns.map V.int) (0 + ((j : Nat) : Int)) = some (V.int (ns.getD j 0)) := by
  rw [Int.zero_add]
  exact atI_map_cell h
/-! ### methods of lists -/
@[irreducible] def rApp : V → List V → Hp → VK → Prop := fun x vs H Q => rAppend x vs H Q
theorem mt_app {X : Cx} : MtM X "list.append" rApp := fun pins s σ H x vs v us Q I rx rv h => mt_append pins s σ H x vs v us Q I rx rv (by unfold rApp at h; exact h)
theorem app_go {H : Hp} {l : Addr} {xs : List V} {y : V} {Q : VK} (e : H l = some (.lst xs)) (hl : xs.length < sizeLine) (q : Q .non (upd H l (.lst (xs ++ [y])))) : rApp (.ref l) [y] H Q := by
  unfold rApp
  exact ⟨l, xs, y, rfl, rfl, e, hl, q⟩
theorem ty_l {K : PySem.W.Frag} {H : Hp} {p : Addr} {xs : List V} (h : SqL K H p xs) : tyV K "list" (.ref p) H := .inl ⟨rfl, _, h⟩
theorem ty_s {K : PySem.W.Frag} {H : Hp} {z : Str} : tyV K "str" (.str z) H := rfl
theorem ty_d {K : PySem.W.Frag} {H : Hp} {p : Addr} {kvs : List (Key × V)} (h : H p = some (.dK kvs)) : tyV K "dict" (.ref p) H := .inr (.inr (.inl ⟨rfl, .inl ⟨_, h⟩⟩))
/-! ### a call that writes all parameters, the last ones by name -/
section
variable {K : PySem.W.Frag} {x qual : Str} {params : Arguments} {body : List Stmt} {scope : Scope} {dvs : List V} {kws : List (Str × V)} {f : Addr} {fd : FuncData} {ps : List Str}
theorem kb_all (F : FunD K x qual params body scope dvs kws f fd) (n : Nat) (ks : List Str) (hd : dvs ≠ [])
    (h : ∀ (T : Addr) (kV doc pm : Value) (an : Option Addr) (cdv ct : Value) (us its ws : List Value), us.length = n → its.length = dvs.length → ws.length = ks.length →
      ∃ k, bindArgs (PySem.W.fnOf x qual params body scope (.ref T) kV doc pm an cdv ct) ⟨us, ks.zip ws⟩ = seqItems? (.ref T) >>= k ∧ k (some its.toArray) = pure (ps.zip (us ++ ws))) :
    KBn K fd ps n ks (fun us ws => us ++ ws) (fun vs zs => vs ++ zs) := by
  obtain ⟨oc, od, dV, kV, doc, pm, an, cdv, ct, osl, rfl, lk, hcd, hD, hK⟩ := F.ex
  rcases hD with ⟨e, _⟩ | ⟨_, t, o, its, m, rfl, lT, oT, rT⟩
  · exact absurd e hd
  · refine ⟨fun s us ws X l1 l2 => ?_, fun r1 r2 => r1.append r2⟩
    obtain ⟨k, e1, e2⟩ := h t kV doc pm an cdv ct us its ws l1 rT.length.symm l2
    refine BindsTo.of_looks fun M => ?_
    rw [e1]
    exact looks_items X lT oT (.of_pure e2)
end
/-! ### a, b, c = pair -/
theorem gTup_go {K : PySem.W.Frag} {n : Nat} {t : TGs} {a : Addr} {xs : List V} {σ : L2.St} {H : Hp} {Q : L2.St → Hp → Prop} (h : SqT K H a xs) (l : xs.length = n) (q : t xs σ H Q) : gTup K n t (.ref a) σ H Q := ⟨a, xs, rfl, h, l, q⟩
theorem gCons_go {t : TG} {u : TGs} {v : V} {r : List V} {σ : L2.St} {H : Hp} {Q : L2.St → Hp → Prop} (q : t v σ H fun σ' H' => u r σ' H' Q) : gCons t u (v :: r) σ H Q := ⟨v, r, rfl, q⟩
theorem gNil_go {σ : L2.St} {H : Hp} {Q : L2.St → Hp → Prop} (q : Q σ H) : gNil [] σ H Q := ⟨rfl, q⟩
/-! ### min and max of two -/
@[irreducible] def rMn : List V → Hp → VK → Prop := fun xs H Q => ∃ i j, xs = [.int i, .int j] ∧ Q (.int (if j < i then j else i)) H
@[irreducible] def rMx : List V → Hp → VK → Prop := fun xs H Q => ∃ i j, xs = [.int i, .int j] ∧ Q (.int (if i < j then j else i)) H
theorem call_mn {X : Cx} (hc : X.calm = true) : CallR X (.builtin "min") rMn := fun pins s σ H xs us Q I r h => call_min2 hc pins s σ H xs us Q I r (by unfold rMn at h; exact h)
theorem call_mx {X : Cx} (hc : X.calm = true) : CallR X (.builtin "max") rMx := fun pins s σ H xs us Q I r h => call_max2 hc pins s σ H xs us Q I r (by unfold rMx at h; exact h)
theorem mn_go {i j : Int} {H : Hp} {Q : VK} (q : Q (.int (if j < i then j else i)) H) : rMn [.int i, .int j] H Q := by
  unfold rMn
  exact ⟨i, j, rfl, q⟩
theorem mx_go {i j : Int} {H : Hp} {Q : VK} (q : Q (.int (if i < j then j else i)) H) : rMx [.int i, .int j] H Q := by
  unfold rMx
  exact ⟨i, j, rfl, q⟩
theorem atI_ex (xs : List Int) {i : Int} (h0 : 0 ≤ i) (h1 : i < (xs.length : Nat)) : ∃ z, z ∈ xs ∧ atI (xs.map V.int) i = some (V.int z) := by
  obtain ⟨n, rfl⟩ : ∃ n : Nat, i = n := ⟨i.toNat, by omega⟩
  have hn : n < xs.length := by omega
  refine ⟨xs[n], List.getElem_mem hn, ?_⟩
  refine atI_nat ?_
  rw [List.getElem?_map, List.getElem?_eq_getElem hn]
  rfl
/-! ### x in xs, flat -/
@[irreducible] def rInS (K : PySem.W.Frag) (neg : Bool) : R2 := fun x y H Q => rIn K neg x y H Q
theorem op_inS {X : Cx} : OpR X (compareOp .In) (rInS X.K false) := fun pins s σ H x y v u Q I rx ry h => op_in_seq pins s σ H x y v u Q I rx ry (by unfold rInS at h; exact h)
theorem op_notInS {X : Cx} : OpR X (compareOp .NotIn) (rInS X.K true) := fun pins s σ H x y v u Q I rx ry h => op_notIn_seq pins s σ H x y v u Q I rx ry (by unfold rInS at h; exact h)
section
variable {K : PySem.W.Frag} {H : Hp} {p : Addr} {x : V} {xs : List V} {Q : VK}
theorem inT_go (h : SqT K H p xs) (fx : flatV x = true) (fs : xs.all flatV = true) (q : Q (.bl (inV x xs)) H) : rInS K false x (.ref p) H Q := by
  unfold rInS
  exact ⟨p, xs, rfl, .inr h, fx, fs, q⟩
theorem inL_go (h : SqL K H p xs) (fx : flatV x = true) (fs : xs.all flatV = true) (q : Q (.bl (inV x xs)) H) : rInS K false x (.ref p) H Q := by
  unfold rInS
  exact ⟨p, xs, rfl, .inl h, fx, fs, q⟩
theorem niT_go (h : SqT K H p xs) (fx : flatV x = true) (fs : xs.all flatV = true) (q : Q (.bl (!inV x xs)) H) : rInS K true x (.ref p) H Q := by
  unfold rInS
  exact ⟨p, xs, rfl, .inr h, fx, fs, q⟩
theorem niL_go (h : SqL K H p xs) (fx : flatV x = true) (fs : xs.all flatV = true) (q : Q (.bl (!inV x xs)) H) : rInS K true x (.ref p) H Q := by
  unfold rInS
  exact ⟨p, xs, rfl, .inl h, fx, fs, q⟩
end
/-! ### == of two pairs (text, tuple) -/
theorem eqD_nest {K : PySem.W.Frag} {H : Hp} {a b p q : Addr} {s : Str} {xs : List V} {Q : VK} (h1 : SqT K H a [.str s, .ref p]) (h2 : SqT K H b [.str s, .ref q]) (hp : SqT K H p xs) (hq : SqT K H q xs) (hs : okS s = true) (f : xs.all flatS = true) (k : Q (.bl true) H) : rEqD K (.ref a) (.ref b) H Q := by
  have e := layAll_pd f
  have sh : SeqAt.shaped (.tuple [.str s, .tuple (xs.map pd)]) = true := by
    unfold SeqAt.shaped
    simp only [PyData.canLay0, PyData.canLayAll0, PyData.depth, PyData.depthAll, e.1, e.2, okS_ok hs]
    decide
  refine ⟨_, _, .tup h1 (.cons (.str s) (.cons (.tup hp (dpAll_pd f)) .nil)), .tup h2 (.cons (.str s) (.cons (.tup hq (dpAll_pd f)) .nil)), sh, sh, ?_⟩
  rw [SeqAt.eqv_refl _ (SeqAt.canLay_of_shaped sh)]
  exact k
/-! ### xs[i] = v -/
@[irreducible] def rSetLi : V → V → V → Hp → (Hp → Prop) → Prop := fun o i v H Q => rSetL o i v H Q
theorem set_li {X : Cx} : PSet X rSetLi := fun pins s σ H o i v ov iv u Q I ro ri rv h => set_list pins s σ H o i v ov iv u Q I ro ri rv (by unfold rSetLi at h; exact h)
theorem setL_go {H : Hp} {p : Addr} {xs : List V} {k : Int} {j : Nat} {v : V} {Q : Hp → Prop} (h : H p = some (.lst xs)) (e : ixN xs.length k = some j) (q : Q (upd H p (.lst (xs.set j v)))) : rSetLi (.ref p) (.int k) v H Q := by
  unfold rSetLi
  exact ⟨p, xs, k, j, rfl, rfl, h, e, q⟩
/-! ### slices -/
section
variable {K : PySem.W.Frag} {H : Hp} {p : Addr} {xs : List V} {lo hi : Option Int} {Q : VK}
theorem slL_go (h : SqL K H p xs) (q : ∀ r, H r = none → Q (.ref r) (upd H r (.lst (cutV xs lo hi)))) : rSlL K (.ref p) lo hi H Q := ⟨p, xs, rfl, h, q⟩
end
/-! ### comprehensions over a list -/
theorem upd_upd {H : Hp} {a : Addr} {o o' : HO} : upd (upd H a o) a o' = upd H a o' := by
  funext b
  by_cases e : b = a
  · subst e
    rw [upd_same, upd_same]
  · rw [upd_ne e, upd_ne e, upd_ne e]
theorem hp_upd {H : Hp} {a p : Addr} {o o' : HO} (e : H p = none) (h : H a = some o) : upd H p o' a = some o := (upd_ne (ne_of_none h e)).trans h
section
variable {K : PySem.W.Frag} {a D : Addr} {g : TG} {tt : TT} {te : TE} {vs : List Nat} {σ : L2.St} {H1 : Hp} {Qd : Hp → Prop}
/-- [x for x in ns if p x] -/
theorem lc_fil {ns : List Int} (p : Int → Bool) (hD : H1 D = none) (hl : SqL K H1 a (ns.map V.int)) (hn : ns.length < sizeLine)
    (hs : ∀ z H (N : Hp → Prop) acc, H D = some (.lst acc) → acc.length < sizeLine → (p z = true → N (upd H D (.lst (acc ++ [.int z])))) → (p z = false → N H) →
      g (.int z) (wipe σ vs) H fun σ2 H2 => wipe σ2 vs = wipe σ vs ∧ tt σ2 H2 fun b H3 => if b = true then te σ2 H3 fun y H4 => ∃ acc, H4 D = some (.lst acc) ∧ acc.length < sizeLine ∧ N (upd H4 D (.lst (acc ++ [y]))) else N H3)
    (hd : Qd (upd H1 D (.lst ((ns.filter p).map V.int)))) :
    ∃ W : Nat → Nat → Hp → Prop, (∃ m, W 0 m (upd H1 D (.lst []))) ∧ ∀ i m H, W i m H →
      ((Itl K a).stop i H ∧ Qd H) ∨ ((Itl K a).go i H ∧ ∃ Nx : Hp → Prop, (∀ H', Nx H' → ∃ m', m' < m ∧ W (i + 1) m' H') ∧ ∀ x H', (Itl K a).yld i H x H' → g x (wipe σ vs) H' fun σ2 H2 => wipe σ2 vs = wipe σ vs ∧ tt σ2 H2 fun b H3 =>
        if b = true then te σ2 H3 fun y H4 => ∃ acc, H4 D = some (.lst acc) ∧ acc.length < sizeLine ∧ Nx (upd H4 D (.lst (acc ++ [y]))) else Nx H3) := by
  refine lc_list (xs := ns.map V.int) (fun i H => H = upd H1 D (.lst (((ns.take i).filter p).map V.int))) rfl (fun i H _ e => e ▸ lst_upd hD hl) ?_ ?_
  · rintro i x H hx rfl
    rw [List.getElem?_map] at hx
    cases hz : ns[i]? with
    | none => rw [hz] at hx; cases hx
    | some z =>
      rw [hz] at hx
      cases hx
      have ht : ns.take (i + 1) = ns.take i ++ [z] := by rw [List.take_add_one, hz]; rfl
      refine hs z _ _ _ upd_same ?_ (fun c => ?_) (fun c => ?_)
      · rw [List.length_map]
        refine Nat.lt_of_le_of_lt (List.length_filter_le _ _) (Nat.lt_of_le_of_lt ?_ hn)
        rw [List.length_take]
        exact Nat.min_le_right _ _
      · rw [ht, List.filter_append, List.map_append, upd_upd]
        simp [c]
      · rw [ht, List.filter_append]
        simp [c]
  · rintro H rfl
    rw [List.length_map, List.take_length]
    exact hd
/-- [f x for x in xs] -/
theorem lc_mp {xs : List V} (f : V → V) (hD : H1 D = none) (hl : SqL K H1 a xs) (hn : xs.length < sizeLine)
    (hs : ∀ (i : Nat) (x : V) (H : Hp) (N : Hp → Prop) (acc : List V), xs[i]? = some x → Same H1 H → H D = some (.lst acc) → acc.length < sizeLine → (∀ H', Same H1 H' → H' D = some (.lst (acc ++ [f x])) → N H') →
      g x (wipe σ vs) H fun σ2 H2 => wipe σ2 vs = wipe σ vs ∧ tt σ2 H2 fun b H3 => if b = true then te σ2 H3 fun y H4 => ∃ acc, H4 D = some (.lst acc) ∧ acc.length < sizeLine ∧ N (upd H4 D (.lst (acc ++ [y]))) else N H3)
    (hd : ∀ H', Same H1 H' → H' D = some (.lst (xs.map f)) → Qd H') :
    ∃ W : Nat → Nat → Hp → Prop, (∃ m, W 0 m (upd H1 D (.lst []))) ∧ ∀ i m H, W i m H →
      ((Itl K a).stop i H ∧ Qd H) ∨ ((Itl K a).go i H ∧ ∃ Nx : Hp → Prop, (∀ H', Nx H' → ∃ m', m' < m ∧ W (i + 1) m' H') ∧ ∀ x H', (Itl K a).yld i H x H' → g x (wipe σ vs) H' fun σ2 H2 => wipe σ2 vs = wipe σ vs ∧ tt σ2 H2 fun b H3 =>
        if b = true then te σ2 H3 fun y H4 => ∃ acc, H4 D = some (.lst acc) ∧ acc.length < sizeLine ∧ Nx (upd H4 D (.lst (acc ++ [y]))) else Nx H3) := by
  refine lc_list (xs := xs) (fun i H => Same H1 H ∧ H D = some (.lst ((xs.take i).map f))) ⟨same_new (Same.refl _) hD, upd_same⟩ (fun i H _ e => same_lst e.1 hl) ?_ ?_
  · rintro i x H hx ⟨s, e⟩
    have ht : xs.take (i + 1) = xs.take i ++ [x] := by rw [List.take_add_one, hx]; rfl
    refine hs i x _ _ _ hx s e ?_ fun H' s' e' => ?_
    · rw [List.length_map, List.length_take]
      exact Nat.lt_of_le_of_lt (Nat.min_le_right _ _) hn
    · refine ⟨s', ?_⟩
      rw [ht, List.map_append]
      exact e'
  · rintro H ⟨s, e⟩
    rw [List.take_length] at e
    exact hd H s e
end
/-! ### comprehensions over a range -/
section
variable {D : Addr} {g : TG} {tt : TT} {te : TE} {vs : List Nat} {σ : L2.St} {H1 : Hp} {Qd : Hp → Prop}
theorem lc_rgm {n : Nat} (f : Nat → V) (hD : H1 D = none) (hn : n < sizeLine)
    (hs : ∀ (i : Nat) (H : Hp) (N : Hp → Prop) (acc : List V), i < n → Same H1 H → H D = some (.lst acc) → acc.length < sizeLine → (∀ H', Same H1 H' → H' D = some (.lst (acc ++ [f i])) → N H') →
      g (.int (0 + (i : Nat))) (wipe σ vs) H fun σ2 H2 => wipe σ2 vs = wipe σ vs ∧ tt σ2 H2 fun b H3 => if b = true then te σ2 H3 fun y H4 => ∃ acc, H4 D = some (.lst acc) ∧ acc.length < sizeLine ∧ N (upd H4 D (.lst (acc ++ [y]))) else N H3)
    (hd : ∀ H', Same H1 H' → H' D = some (.lst ((List.range n).map f)) → Qd H') :
    ∃ W : Nat → Nat → Hp → Prop, (∃ m, W 0 m (upd H1 D (.lst []))) ∧ ∀ i m H, W i m H →
      ((Itr 0 n).stop i H ∧ Qd H) ∨ ((Itr 0 n).go i H ∧ ∃ Nx : Hp → Prop, (∀ H', Nx H' → ∃ m', m' < m ∧ W (i + 1) m' H') ∧ ∀ x H', (Itr 0 n).yld i H x H' → g x (wipe σ vs) H' fun σ2 H2 => wipe σ2 vs = wipe σ vs ∧ tt σ2 H2 fun b H3 =>
        if b = true then te σ2 H3 fun y H4 => ∃ acc, H4 D = some (.lst acc) ∧ acc.length < sizeLine ∧ Nx (upd H4 D (.lst (acc ++ [y]))) else Nx H3) := by
  refine lc_range (fun i H => Same H1 H ∧ H D = some (.lst ((List.range i).map f))) ⟨same_new (Same.refl _) hD, upd_same⟩ ?_ fun H e => hd H e.1 e.2
  rintro i H hi ⟨s, e⟩
  refine hs i H _ _ hi s e ?_ fun H' s' e' => ⟨s', ?_⟩
  · rw [List.length_map, List.length_range]
    exact Nat.lt_trans hi hn
  · rw [List.range_succ, List.map_append]
    exact e'
end
theorem range_rep {n : Nat} {v : Int} : (List.range n).map (fun _ => V.int v) = (List.replicate n v).map V.int := by
  rw [List.map_const', List.length_range, List.map_replicate]
/-! ### max of a list -/
@[irreducible] def rMxl (K : PySem.W.Frag) : List V → Hp → VK → Prop := fun vs H Q => rMax K vs H Q
theorem call_mxl {X : Cx} (hc : X.calm = true) : CallR X (.builtin "max") (rMxl X.K) := fun pins s σ H xs us Q I r h => cr_max hc pins s σ H xs us Q I r (by unfold rMxl at h; exact h)
theorem mxl_go {K : PySem.W.Frag} {H : Hp} {p : Addr} {ns : List Int} {Q : VK} (h : SqL K H p (ns.map V.int)) (h0 : 0 < ns.length) (q : ∀ m, m ∈ ns → (∀ y, y ∈ ns → y ≤ m) → Q (.int m) H) : rMxl K [.ref p] H Q := by
  unfold rMxl
  exact ⟨p, ns, rfl, h, h0, q⟩
/-! ### x is True -/
@[irreducible] def rIsB : R2 := fun x y H Q => ∃ b c, x = .bl b ∧ y = .bl c ∧ Q (.bl (b == c)) H
@[irreducible] def rNotB : R2 := fun x y H Q => ∃ b c, x = .bl b ∧ y = .bl c ∧ Q (.bl (!(b == c))) H
section
variable {X : Cx} {b c : Bool} {H : Hp} {Q : VK}
theorem op_isB : OpR X (compareOp .Is) rIsB := fun pins s σ H x y v u Q I rx ry h => by
  unfold rIsB at h
  obtain ⟨b, c, rfl, rfl, q⟩ := h
  cases (show v = Value.bool b from rx)
  cases (show u = Value.bool c from ry)
  refine PySem.wpAny_is_plain rfl ⟨.bl (b == c), H, I, ?_, q⟩
  cases b <;> cases c <;> rfl
theorem op_notB : OpR X (compareOp .IsNot) rNotB := fun pins s σ H x y v u Q I rx ry h => by
  unfold rNotB at h
  obtain ⟨b, c, rfl, rfl, q⟩ := h
  cases (show v = Value.bool b from rx)
  cases (show u = Value.bool c from ry)
  refine PySem.wpAny_isNot_plain rfl ⟨.bl (!(b == c)), H, I, ?_, q⟩
  cases b <;> cases c <;> rfl
theorem isB_go (q : Q (.bl (b == c)) H) : rIsB (.bl b) (.bl c) H Q := by
  unfold rIsB
  exact ⟨b, c, rfl, rfl, q⟩
theorem notB_go (q : Q (.bl (!(b == c))) H) : rNotB (.bl b) (.bl c) H Q := by
  unfold rNotB
  exact ⟨b, c, rfl, rfl, q⟩
end
theorem tC_go {v : V} {σ : L2.St} {H : Hp} {Q : VK} (q : Q v H) : tC v σ H Q := q
theorem tNoPart_go {σ : L2.St} {H : Hp} {Q : Option Int → Hp → Prop} (q : Q none H) : tNoPart σ H Q := q
/-! ### list(xs) -/
@[irreducible] def rLo (K : PySem.W.Frag) : List V → Hp → VK → Prop := fun vs H Q => ∃ p xs, vs = [.ref p] ∧ (SqL K H p xs ∨ SqT K H p xs) ∧ ∀ l, H l = none → Q (.ref l) (upd H l (.lst xs))
theorem call_lo {X : Cx} : CallR X (.type "list") (rLo X.K) := fun pins s σ H xs us Q I r h => call_list_of pins s σ H xs us Q I r (by unfold rLo at h; exact h)
section
variable {K : PySem.W.Frag} {H : Hp} {p : Addr} {xs : List V} {Q : VK}
theorem lo_l (h : SqL K H p xs) (q : ∀ l, H l = none → Q (.ref l) (upd H l (.lst xs))) : rLo K [.ref p] H Q := by
  unfold rLo
  exact ⟨p, xs, rfl, .inl h, q⟩
theorem lo_t (h : SqT K H p xs) (q : ∀ l, H l = none → Q (.ref l) (upd H l (.lst xs))) : rLo K [.ref p] H Q := by
  unfold rLo
  exact ⟨p, xs, rfl, .inr h, q⟩
end
theorem flatI {fl : List Int} : (fl.map V.int).all flatS = true := by
  rw [List.all_map]
  exact List.all_eq_true.mpr fun _ _ => rfl
/-! ### xs + ys -/
@[irreducible] def rCt : R2 := fun x y H Q => rCat x y H Q
theorem op_ct {X : Cx} : OpR X (binaryOp .Add) rCt := fun pins s σ H x y v u Q I rx ry h => op_cat pins s σ H x y v u Q I rx ry (by unfold rCt at h; exact h)
theorem ct_go {H : Hp} {a b : Addr} {xs ys : List V} {Q : VK} (h1 : H a = some (.lst xs)) (h2 : H b = some (.lst ys)) (hl : xs.length + ys.length ≤ sizeLine) (q : ∀ r, H r = none → Q (.ref r) (upd H r (.lst (xs ++ ys)))) : rCt (.ref a) (.ref b) H Q := by
  unfold rCt
  exact ⟨a, b, xs, ys, rfl, rfl, h1, h2, hl, q⟩
/-! ### f() -/
section
variable {X : Cx} {CX : CXT} {k : Nat} {f : Addr} {fd : FuncData} {sp : Sp} {E : L2.St → XK} {x : Str} {p pos : Pos}
def tCall0 (sp : Sp) (E : L2.St → XK) : TE := fun σ H Q => sp [] H Q (E σ)
theorem pe_callS0 (F : FnOk X.prog X.w X.K X.mg X.base CX k f fd [] sp) (hr : Room k X.A) (hg : Gl X x) (hm : X.mg x = some (.ref f)) (hk : PySem.W.keepIn X.K (.ref f) = true) (hb : Binds X.K fd [] []) (hx : ∀ σ, PassesAt CX X σ (E σ))
    (hdb : (x == ("__debug__" : Str)) = false := by decide) : PE X (.Call (.Name x p) [] [] pos) (tCall0 sp E) := by
  refine ⟨fun pins s σ H Q I h => ?_⟩
  refine wpAny_Call_Name_kw (ld_glob I hg hm ?_ hdb)
  exact PySem.W.callWith_K0 I.kIn hk (run_fnS (us := []) F hr hb (hx σ) I .nil h)
end
end LB

set_option Elab.async false
set_option linter.all false
set_option maxRecDepth 100000
set_option maxHeartbeats 4000000
/-! an own exception whose __init__ begins with super().__init__(..), over ValueError through own classes -/
namespace LB
open PySem PySem.Spec PyProof.Rows L2 NdefX
/-- what the written part says of such a class: at C, its __init__ at fI, that one's code at cda, the cell of __class__ at cc -/
structure SupC (P : Program) (K : PySem.W.Frag) (mg : Str → Option Value) (C fI cc cda : Addr) : Prop where
  ox : OexC K C
  iC : PySem.W.findIn K (.ref C) "__init__" = some (some (.ref fI))
  tI : PySem.W.typeIn K (.ref fI) = some (.type "function")
  cell : ∃ cl cld csl, K.lookup cc = some ⟨cl, cld, .cell (some (.ref C)), csl⟩
  code : ∃ ccl cdd vs ccs file tf, K.lookup cda = some ⟨ccl, cdd, .fields vs, ccs⟩ ∧ vs[2]? = some (.str file tf) ∧ ((P.main.file : Str) == file) = true
  top : (P.main.scope.names.lookup ("super" : Str)).isSome = false
  zs : mg "super" = none
  self : PySem.W.mroIn K C (.ref C) = some true
  third : PySem.W.nsIn K cStatics "thirdparty.any" = some none
  sup : PySem.W.ks_superIn K C C "__init__" = some (some (.builtin "ValueError.__init__"))
  ve : PySem.W.subIn K (.ref C) (.type "ValueError") = some true
section
variable {CX : CXT} {P : Program} {w : World} {K : PySem.W.Frag} {mg : Str → Option Value} {base : Heap} {C fI cc cda : Addr}
/-- the wrapper's call: the exception's args are laid anew -/
theorem sup_call {X : Cx} {pins : List (Addr × Obj)} {σ : L2.St} {H : Hp} {s : Shared} {a u : Addr} {us : List Value} {A : Around} {E : Value → Shared → Prop} {Q : Value → Shared → Prop} (T : OexC X.K C) (I : Inv X pins σ H s) (e : H a = some (exo a C none))
    (hu : s.heap.get? u = some (PySem.W.kxs_mw "ValueError.__init__" a)) (hl : us.length ≤ sizeLine) (h : ∀ s', Inv X pins σ H s' → Q .none s') : wpAny (model X.prog X.w) A (call (.ref u) us) Q E s := by
  obtain ⟨nm, q, N, bs, bm, sn, sub, ab, col, dd, k0, k1, k2, k3, k5, hC, hbm⟩ := T.cls
  obtain ⟨t1, ho⟩ := exo_at I.hok e
  have hCh := I.kIn _ _ hC
  obtain ⟨hp, g, d, t, os⟩ := s
  refine wpAny_call (codeAny_of_tree ?_)
  show wpAny _ A.in1 (callAny (.ref u) ⟨us, []⟩) _ _ _
  simp only [callAny]
  refine wpAny_bind (wpAny_load hu ?_)
  simp only [PySem.W.kxs_mw, show (Value.type "method-wrapper" == Value.type "method" || Value.type "method-wrapper" == Value.type "builtin_function_or_method" || Value.type "method-wrapper" == Value.type "method-wrapper") = true by decide, if_true]
  refine PySem.W.KFB.if_so (by decide) ?_
  refine wpAny_bind (PySem.W.check_bound_init F.excBase_ValueError.toExcCallFacts hCh ho rfl ?_)
  refine wpAny_bind (wpAny_pure (wpAny_pure ?_))
  refine ⟨plainId_quiet F.excBase_ValueError.init.plain _, codeAny_builtin F.excBase_ValueError.initEntry ?_⟩
  refine PySem.W.exc_init_tree (cls := .ref C) (t0 := t1) (dv := none) (c2 := .none) (c3 := .none) (b4 := .bool false) ho hl fun h' k hx _ => ?_
  have J := I.write (t' := t) (x := a) (e := a) (o := exo a C none) (by rw [e]; exact True.intro) (.inl rfl) k ⟨_, hx⟩ (exo_ok hx)
  have eu : upd H a (exo a C none) = H := by
    funext b
    by_cases hb : b = a
    · rw [hb, upd_same, e]
    · rw [upd_ne hb]
  rw [eu] at J
  exact h _ J
end
/-- the first statement -/
abbrev supS (p1 p2 p3 p4 p5 : Pos) (e : Expr) (es : List Expr) : Stmt := .Expr (.Call (.Attribute (.Call (.Name "super" p1) [] [] p2) "__init__" p3) (e :: es) [] p4) p5
theorem looks_mro {M : Model} {K : PySem.W.Frag} {h : Heap} {C : Addr} {cd : ClassData} (X : K.In h) (hc : PySem.W.clsIn K C = some cd) : PySem.W.Looks M h (mroOf (.ref C)) cd.mro := fun A Q E s k q => wpAny_bind ((PySem.W.looks_clsIn X hc) A _ E s k (wpAny_pure q))
section
variable {CX : CXT} {P : Program} {w : World} {K : PySem.W.Frag} {mg : Str → Option Value} {base : Heap} {C fI cc cda : Addr} {N ps : List Str} {k : Nat} {sp : Sp} {name qual : Str} {params : Arguments} {rest : List Stmt} {scope : Scope} {p1 p2 p3 p4 p5 : Pos} {e : Expr} {es : List Expr}
theorem sup_ok {F : NF} {oc doc pm ct : Value} {od : Option Addr} {osl : Array (Option Value)} (T : SupC P K mg C fI cc cda) (hB : F.body = supS p1 p2 p3 p4 p5 e es :: rest) (hcl : F.cl = [(("__class__" : Str), cc)]) (hca : F.c = cda)
    (lk : K.lookup fI = some ⟨oc, od, .func (F.fd doc pm ct), osl⟩) (hcd : PySem.W.codeIn K (.ref cda) F.qual = true)
    (S : NScope N (("self" : Str) :: ps) ["__class__"] F.scope) (hps : (F.params.posonlyargs ++ F.params.args).head?.map (·.arg) = some ("self" : Str)) (hks : F.scope.names.lookup ("super" : Str) = some .globalImplicit)
    (hb : ∀ us : List Value, us.length = (("self" : Str) :: ps).length → bindArgs (F.fd doc pm ct) ⟨us, []⟩ = pure ((("self" : Str) :: ps).zip us))
    (he : ∀ L, starEach (e :: es) (envF F fI L) = (false, eval e (envF F fI L)) :: starEach es (envF F fI L))
    (hpl : ∀ L, (backTo p4 (starEach es (envF F fI L))).any (·.1) = false)
    (hsw : ∀ L, swapsWith (.Call (.Attribute (.Call (.Name "super" p1) [] [] p2) "__init__" p3) (e :: es) [] p4) none p5.line (envF F fI L) = pure false)
    (hev : ∀ L, ∃ pl, eval (.Call (.Attribute (.Call (.Name "super" p1) [] [] p2) "__init__" p3) (e :: es) [] p4) (envF F fI L) = (do
      let ov ← attributeBase (.Call (.Name "super" p1) [] [] p2) "__init__" (envF F fI L) (eval (.Call (.Name "super" p1) [] [] p2) (envF F fI L))
      standAt p3.atName
      let (f, first) ← holding [ov] (getMethod ov "__init__" pl)
      callWith p4 f first (backTo p4 (starEach (e :: es) (envF F fI L))) []))
    (len : ∀ vs H Q E, sp vs H Q E → vs.length = (("self" : Str) :: ps).length)
    (hbody : ∀ (A : Around) (outer : List Env) (s : Shared) (H : Hp) (vs : List V) (Q : VK) (E : XK), sp vs H Q E →
      ∃ (a : Addr) (xs : List V) (ta : TA) (t : TS), vs = .ref a :: xs ∧ H a = some (exo a C none) ∧ PA (ncx CX P w K mg base N F fI A outer s H E) (e :: es) ta ∧
        PSs (ncx CX P w K mg base N F fI A outer s H E) rest t ∧
        ta (startF N vs [some (.ref C)]) H fun us H1 => us.length ≤ 1000 ∧ H1 a = some (exo a C none) ∧ t { nx := fun _ H' => Q .non H', rt := Q } (startF N vs [some (.ref C)]) H1) :
    FnOk P w K mg base CX (k + 1) fI (F.fd doc pm ct) (("self" : Str) :: ps) sp := by
  obtain ⟨fn_, fq, fp, fb, fs, fcl, fc⟩ := F
  dsimp only at hB hcl hca hcd S hps hks
  subst hB hcl hca
  refine ⟨len, fun A outer s H args us vs Q E hr e0 hbi r hsp => ?_⟩
  have hl := len _ _ _ _ hsp
  have lim : s.heap.NoLimit := e0.mod.nolimit.keeps fun b o e => (e0.bs b o e).1
  have KX : K.In s.heap := e0.mod.kin.keeps fun b o e => (e0.bs b o e).1
  obtain ⟨a, xs, ta, t, rfl, ea, ha, hrest, hq⟩ := hbody A outer s H vs Q E hsp
  obtain ⟨cl, cld, csl, hcell⟩ := T.cell
  obtain ⟨ccl, cdd, cvs, ccs, file, tf, hcode, hvs, hfile⟩ := T.code
  obtain ⟨nm, q0, N0, bs, bm, sn, sub, ab, col, dd, k0, k1, k2, k3, k5, hC, hbm⟩ := T.ox.cls
  obtain ⟨u0, ur, rfl, ru0, rur⟩ : ∃ u0 ur, us = u0 :: ur ∧ RelV (.ref a) u0 ∧ Vals xs ur := by
    cases r with
    | cons h1 h2 => exact ⟨_, _, rfl, h1, h2⟩
  obtain rfl : u0 = Value.ref a := ru0
  have hul : (Value.ref a :: ur).length = (("self" : Str) :: ps).length := r.length.symm.trans hl
  refine ks_codeAny_call_defAt hr.depth (KX _ _ lk) rfl lim (PySem.W.codeRec_of KX hcd) rfl hbi S.nocell (fun ⟨n, _⟩ hy => S.par n (List.of_mem_zip hy).1) (fun h₁ hns kp => ?_) S.co S.gen S.kind
  have CA : CellsAt [(("__class__" : Str), cc)] ["__class__"] [some (.ref C)] s.heap H := by
    have hk : H cc = none := by
      have := (e0.bs cc _ (e0.mod.kin _ _ hcell)).2
      exact this
    have f : ∀ (z : Str) (c' : Addr), List.lookup z [(("__class__" : Str), cc)] = some c' → z = "__class__" ∧ c' = cc := fun z c' h => by
      by_cases q : z = ("__class__" : Str)
      · subst q
        have : some cc = some c' := by simpa [List.lookup] using h
        exact ⟨rfl, (Option.some.inj this).symm⟩
      · have q2 : (z == ("__class__" : Str)) = false := by simpa using q
        simp [List.lookup, q2] at h
    refine ⟨rfl, fun y c hy => ?_, fun x y c hx hy => (f x c hx).1.trans (f y c hy).1.symm, fun i y hi => ?_⟩
    · obtain ⟨_, rfl⟩ := f y c hy
      exact ⟨hk, _, ⟨_, KX _ _ hcell, rfl⟩⟩
    · cases i with
      | zero =>
        have ey : y = "__class__" := (Option.some.inj hi).symm
        subst ey
        exact ⟨cc, by simp [List.lookup], fun v hv => ⟨.ref C, by cases hv; rfl, ⟨_, KX _ _ hcell, rfl⟩⟩⟩
      | succ n => simp at hi
  have I : Inv (ncx CX P w K mg base N (⟨fn_, fq, fp, supS p1 p2 p3 p4 p5 e es :: rest, fs, [(("__class__" : Str), cc)], fc⟩ : NF) fI A outer s H E) [] (startF N (.ref a :: xs) [some (.ref C)]) H { s with heap := h₁, toks := s.toks + ((("self" : Str) :: ps).zip (Value.ref a :: ur)).length } := inv_startN S hr.hd e0 hl r CA hns kp
  refine ks_wpAt_execs_cons (ks_wpAt_Expr_any ?_ (I.quiet) (hsw _))
  obtain ⟨pl, hev⟩ := hev s.heap.objs.size
  refine ks_wpAt_MethodCall ?_ hev
  obtain ⟨ar, hp, har⟩ : ∃ ar, (fp.posonlyargs ++ fp.args).head? = some ar ∧ ar.arg = "self" := by
    cases z : (fp.posonlyargs ++ fp.args).head? with
    | none => rw [z] at hps; cases hps
    | some ar => rw [z] at hps; exact ⟨ar, rfl, Option.some.inj hps⟩
  have hnd : (("self" : Str) :: ps).Nodup := by
    have q := S.nd.sublist (List.take_sublist ((("self" : Str) :: ps).length + [("__class__" : Str)].length) N)
    rw [S.pre] at q
    exact (List.nodup_append.mp q).1
  have hself : ((("self" : Str) :: ps).zip (Value.ref a :: ur)).reverse.lookup ("self" : Str) = some (Value.ref a) := zip_look (i := 0) hnd rfl rfl
  have hcd' : PySem.W.clsIn K C = some { name := nm, bases := bs, mro := .ref C :: bm, ns := N0, qualname := q0, hasDict := true, slotNames := sn, subclasses := sub, abstract := ab, collection := col, hasDel := false } := by unfold PySem.W.clsIn; rw [hC] <;> rfl
  obtain ⟨t1, ho⟩ := exo_at I.hok ea
  have X1 := I.kIn
  refine ks_wpAt_super_base (env := envF (⟨fn_, fq, fp, supS p1 p2 p3 p4 p5 e es :: rest, fs, [(("__class__" : Str), cc)], fc⟩ : NF) fI s.heap.objs.size) hks (S.frk _ List.mem_cons_self) (by decide) rfl (X1 _ _ lk) rfl hp rfl (X1 _ _ hcode) rfl hvs hfile T.top ?_
  obtain ⟨mb, hb1, hb2⟩ := I.mod.blt
  refine PySem.W.ks_loadName_global S.kind hks (PySem.Calls.loadGlobal_builtin (env := envF (⟨fn_, fq, fp, supS p1 p2 p3 p4 p5 e es :: rest, fs, [(("__class__" : Str), cc)], fc⟩ : NF) fI s.heap.objs.size) (I.mod.glob.keeps I.bk) T.zs (hb1.keeps I.bk) ((hb2 _ (by decide +kernel)).trans (show bootBuiltins "super" = some (.type "super") by decide +kernel)) ⟨rfl, ?_⟩)
  refine wpAny_loadName_free S.kind (S.frk _ List.mem_cons_self) rfl ⟨_, X1 _ _ hcell, rfl⟩ ?_
  rw [har]
  refine wpAny_loadName_local S.kind (S.par _ List.mem_cons_self) hns hself ?_
  refine ks_wpAny_isType_cls (X1 _ _ hC) rfl ⟨rfl, ?_⟩
  refine ks_wpAny_call_super (X1 _ _ hC) rfl ho rfl (fun c z => nomatch z) (PySem.W.looks_mroIn X1 T.self) (fun h2 e2 k2 => ?_)
  have I2 := I.kept (t' := s.toks + ((("self" : Str) :: ps).zip (Value.ref a :: ur)).length) k2
  have X2 := I2.kIn
  -- the method
  have hsup := T.sup
  unfold PySem.W.ks_superIn at hsup
  rw [hcd', Option.bind_some] at hsup
  have haC : a ≠ C := fun z => by
    have q1 := X1 _ _ hC
    rw [← z] at q1
    have q2 : some _ = some _ := ho.symm.trans q1
    cases q2
  refine PySem.W.kxs_getMethod PySem.W.kxs_ValueError e2 (PySem.W.looks_opaque X2 T.third) (looks_mro X2 hcd') rfl X2 hsup
    (PySem.W.Looks.andThen (PySem.W.InstAt.type (od := none) ⟨k2 _ _ ho, rfl, rfl, trivial⟩) (PySem.W.looks_subIn X2 T.ve)) haC (by decide) ?_
  have k3' : ∀ b o, h2.get? b = some o → (h2.push (PySem.W.kxs_mw "ValueError.__init__" a)).get? b = some o := fun b o z => Heap.get?_push_of_some _ z
  have hmw : (h2.push (PySem.W.kxs_mw "ValueError.__init__" a)).get? h2.objs.size = some (PySem.W.kxs_mw "ValueError.__init__" a) := Heap.get?_push_at rfl rfl
  have I3 := I2.kept (t' := s.toks + ((("self" : Str) :: ps).zip (Value.ref a :: ur)).length + 1) k3'
  have hfr : H h2.objs.size = none := I2.hok.fresh (Nat.le_refl _)
  have hnL : h2.objs.size ≠ s.heap.objs.size := Nat.ne_of_gt I2.lt
  have hnf : h2.objs.size ∉ (ncx CX P w K mg base N (⟨fn_, fq, fp, supS p1 p2 p3 p4 p5 e es :: rest, fs, [(("__class__" : Str), cc)], fc⟩ : NF) fI A outer s H E).fs := I2.nofs (Nat.le_refl _)
  have I4 : Inv (ncx CX P w K mg base N (⟨fn_, fq, fp, supS p1 p2 p3 p4 p5 e es :: rest, fs, [(("__class__" : Str), cc)], fc⟩ : NF) fI A outer s H E) [(h2.objs.size, PySem.W.kxs_mw "ValueError.__init__" a)] (startF N (.ref a :: xs) [some (.ref C)]) H { s with heap := h2.push (PySem.W.kxs_mw "ValueError.__init__" a), toks := s.toks + ((("self" : Str) :: ps).zip (Value.ref a :: ur)).length + 1 } :=
    I3.pins_of fun p hp => by
      have hp' : p ∈ [(h2.objs.size, PySem.W.kxs_mw "ValueError.__init__" a)] := hp
      obtain rfl := List.mem_singleton.mp hp'
      exact ⟨hmw, hfr, hnL, hnf, fun v z => nomatch z⟩
  refine PySem.W.kxs_callWith (i := "ValueError.__init__") (x := a) ?_ ?_
  · refine Eq.trans (congrArg (fun z => (backTo p4 z).any (·.1)) (he s.heap.objs.size)) ?_
    show (false || (backTo p4 (starEach es (envF (⟨fn_, fq, fp, supS p1 p2 p3 p4 p5 e es :: rest, fs, [(("__class__" : Str), cc)], fc⟩ : NF) fI s.heap.objs.size))).any (·.1)) = false
    rw [hpl]; rfl
  have hrun : wpAny (model P w) (A.deeper (envF (⟨fn_, fq, fp, supS p1 p2 p3 p4 p5 e es :: rest, fs, [(("__class__" : Str), cc)], fc⟩ : NF) fI s.heap.objs.size)) (spliced (backTo p4 (starEach (e :: es) (envF (⟨fn_, fq, fp, supS p1 p2 p3 p4 p5 e es :: rest, fs, [(("__class__" : Str), cc)], fc⟩ : NF) fI s.heap.objs.size)))) _ _ _ := ha.run p4 _ _ _ H _ I4 hq
  rw [he] at hrun
  show wpAny _ _ (evalArgs _ true (backTo p4 (starEach (e :: es) (envF (⟨fn_, fq, fp, supS p1 p2 p3 p4 p5 e es :: rest, fs, [(("__class__" : Str), cc)], fc⟩ : NF) fI s.heap.objs.size))) []) _ _ _
  rw [he]
  refine PySem.Calls.evalArgs_plain (thn hrun fun us' s5 hh => ?_)
  obtain ⟨vs5, H5, I5, r5, l5, ea5, q5⟩ := hh
  have hp5 := I5.pin (h2.objs.size, PySem.W.kxs_mw "ValueError.__init__" a) (List.mem_append_right _ List.mem_cons_self)
  refine ⟨hp5.1, ?_⟩
  refine sup_call T.ox I5 ea5 hp5.1 (by show us'.length ≤ sizeLine; rw [← r5.length, sizeLine_eq]; omega) fun s6 I6 => ?_
  refine wpAt_of_wpAny (wpAny_mono (hrest.run _ s6 _ H5 _ I6 q5) (fun fl s' hs => ?_) fun e s' hs => hs)
  have fin : ∀ {σ' : L2.St} {H' : Hp} {v : V} {u : Value}, Inv (ncx CX P w K mg base N (⟨fn_, fq, fp, supS p1 p2 p3 p4 p5 e es :: rest, fs, [(("__class__" : Str), cc)], fc⟩ : NF) fI A outer s H E) [(h2.objs.size, PySem.W.kxs_mw "ValueError.__init__" a)] σ' H' s' → RelV v u → Q v H' → CE outer P w H s Q u s' :=
    fun {σ' H' v u} J rv q => ⟨v, H', J.os, J.bare, J.base, J.hok, rv, q⟩
  cases fl with
  | ret u =>
    obtain ⟨v, σ', H', J, rv, q⟩ := hs
    exact fin J rv q
  | next =>
    obtain ⟨σ', H', J, q⟩ := hs
    exact fin (v := V.non) (u := Value.none) J rfl q
  | brk =>
    obtain ⟨_, _, _, q⟩ := hs
    exact False.elim q
  | cont =>
    obtain ⟨_, _, _, q⟩ := hs
    exact False.elim q
end
end LB
namespace LB
open PySem PySem.Spec PyProof.Rows L2 NdefX
/-! ### the promise of such an __init__, and what C(..) leaves -/
/-- its fields are told by the arguments -/
def sp_exc (C : Addr) (cond : List V → Prop) (fs : List V → List (Str × V)) (n : Nat) : Sp := fun vs H Q _ => ∃ (a : Addr) (xs : List V), vs = .ref a :: xs ∧ xs.length = n ∧ H a = some (exo a C none) ∧ cond xs ∧
  ∀ (d : Addr) (H' : Hp), H d = none → d ≠ a → H' a = some (exo a C (some d)) → H' d = some (exd d (fs xs)) → (∀ b, b ≠ a → b ≠ d → H' b = H b) → Q .non H'
def tExc (C : Addr) (cond : List V → Prop) (fs : List V → List (Str × V)) (n : Nat) (ta : TA) : L2.St → Hp → XK → Prop := fun σ H Q => ta σ H fun vs H1 => vs.length = n ∧ cond vs ∧ ∀ d, H1 d = none → Q (.ref C) (some d) (upd H1 d (.xd (fs vs)))
structure ExcOk (P : Program) (w : World) (K : PySem.W.Frag) (mg : Str → Option Value) (base : Heap) (C : Addr) (cond : List V → Prop) (fs : List V → List (Str × V)) (n : Nat) : Prop where
  ox : OexC K C
  iC : ∃ fI, PySem.W.findIn K (.ref C) "__init__" = some (some (.ref fI)) ∧ PySem.W.typeIn K (.ref fI) = some (.type "function") ∧ ∃ fd ps, FnOk P w K mg base (L2.CX P w) 1 fI fd ps (sp_exc C cond fs n) ∧ Binds K fd ps []
section
variable {X : Cx} {C : Addr} {cond : List V → Prop} {fs : List V → List (Str × V)} {n : Nat} {x : Str} {p pos pos2 : Pos} {e : Expr} {es : List Expr} {ta : TA} {W : WX}
theorem pmk_exc (T : ExcOk X.prog X.w X.K X.mg X.base C cond fs n) (hn : n ≤ 1000) (hr : Room 2 X.A) (hg : Gl X x) (hm : X.mg x = some (.ref C)) (ha : PA X (e :: es) ta)
    (hdb : (x == ("__debug__" : Str)) = false := by decide) (he : starEach (e :: es) X.env = (false, eval e X.env) :: starEach es X.env := by rfl) (hpl : (backTo pos (starEach es X.env)).any (·.1) = false := by rfl) :
    PMk X (.Call (.Name x p) (e :: es) [] pos) (tExc C cond fs n ta) := by
  obtain ⟨fI, iC, tI, fd, ps, G, b⟩ := T.iC
  have ha2 : PA X (e :: es) (fun σ H R => ∃ R0 : List V → Hp → Prop, ta σ H R0 ∧ ∀ vs H1, R0 vs H1 → R vs H1) := ⟨fun pos pins s σ H R I h => by
    obtain ⟨R0, h0, h1⟩ := h
    refine thn (ha.run pos pins s σ H R0 I h0) fun us s' q => ?_
    obtain ⟨vs, H1, I1, r1, q1⟩ := q
    exact ⟨vs, H1, I1, r1, h1 vs H1 q1⟩⟩
  have key := pmk_oex (CX := L2.CX X.prog X.w) (ds := []) (dvs := []) (pos := pos) (p := p) T.ox iC tI G hr b .nil passX hg hm ha2 hdb he hpl
  intro pins s σ H Q I h
  refine key pins s σ H Q I ⟨_, h, fun vs H1 q => ?_⟩
  obtain ⟨hl, hc, q⟩ := q
  refine ⟨by omega, fun a ha => ?_⟩
  rw [List.append_nil]
  refine ⟨a, vs, rfl, hl, upd_same, hc, fun d H' hd hda e1 e2 e3 => ⟨rfl, d, fs vs, e1, e2, by rw [upd_ne hda] at hd; exact hd, ?_⟩⟩
  have hd1 : H1 d = none := by rw [upd_ne hda] at hd; exact hd
  have eq : upd (del H' a) d (.xd (fs vs)) = upd H1 d (.xd (fs vs)) := by
    funext b
    by_cases hb : b = d
    · rw [hb, upd_same, upd_same]
    · rw [upd_ne hb, upd_ne hb]
      by_cases hba : b = a
      · rw [hba, del_same, ha]
      · rw [del_ne hba, e3 b hba hb, upd_ne hba]
  rw [eq]
  exact q d hd1
theorem ps_raiseX (hc : X.calm = true) (tk : Takes X W) (T : ExcOk X.prog X.w X.K X.mg X.base C cond fs n) (hn : n ≤ 1000) (hr : Room 2 X.A) (hg : Gl X x) (hm : X.mg x = some (.ref C)) (ha : PA X (e :: es) ta)
    (hdb : (x == ("__debug__" : Str)) = false := by decide) (he : starEach (e :: es) X.env = (false, eval e X.env) :: starEach es X.env := by rfl) (hpl : (backTo pos (starEach es X.env)).any (·.1) = false := by rfl) :
    PS X (.Raise (some (.Call (.Name x p) (e :: es) [] pos)) none pos2) (fun _ σ H => tExc C cond fs n ta σ H fun cls d H' => W cls d σ H') := ps_raise hc tk (pmk_exc T hn hr hg hm ha hdb he hpl)
end
/-! ### the class as the text has it -/
/-- C with its __init__ st, as the top leaves them -/
structure XTxt (P : Program) (K : PySem.W.Frag) (mg : Str → Option Value) (qual : Str) (st : Stmt) (C : Addr) : Prop where
  ex : ∃ (fI cc cda : Addr) (oc doc pm ct : Value) (od : Option Addr) (osl : Array (Option Value)), SupC P K mg C fI cc cda ∧
    K.lookup fI = some ⟨oc, od, .func ((⟨"__init__", qual, defArgs st, defBody st, defScope st, [(("__class__" : Str), cc)], cda⟩ : NF).fd doc pm ct), osl⟩ ∧ PySem.W.codeIn K (.ref cda) qual = true
section
variable {P : Program} {w : World} {K : PySem.W.Frag} {mg : Str → Option Value} {base : Heap} {C : Addr} {qual : Str} {st : Stmt} {cond : List V → Prop} {fs : List V → List (Str × V)} {n : Nat} {N ps : List Str} {rest : List Stmt} {p1 p2 p3 p4 p5 : Pos} {e : Expr} {es : List Expr}
theorem XTxt.ok (T : XTxt P K mg qual st C) (hB : defBody st = supS p1 p2 p3 p4 p5 e es :: rest) (hn : n = ps.length)
    (S : NScope N (("self" : Str) :: ps) ["__class__"] (defScope st)) (hps : ((defArgs st).posonlyargs ++ (defArgs st).args).head?.map (·.arg) = some ("self" : Str)) (hks : (defScope st).names.lookup ("super" : Str) = some .globalImplicit)
    (hb : ∀ (cc cda : Addr) (doc pm ct : Value) (us : List Value), us.length = (("self" : Str) :: ps).length → bindArgs ((⟨"__init__", qual, defArgs st, defBody st, defScope st, [(("__class__" : Str), cc)], cda⟩ : NF).fd doc pm ct) ⟨us, []⟩ = pure ((("self" : Str) :: ps).zip us))
    (he : ∀ (cc cda fI L : Addr), starEach (e :: es) (envF ⟨"__init__", qual, defArgs st, defBody st, defScope st, [(("__class__" : Str), cc)], cda⟩ fI L) = (false, eval e (envF ⟨"__init__", qual, defArgs st, defBody st, defScope st, [(("__class__" : Str), cc)], cda⟩ fI L)) :: starEach es (envF ⟨"__init__", qual, defArgs st, defBody st, defScope st, [(("__class__" : Str), cc)], cda⟩ fI L))
    (hpl : ∀ (cc cda fI L : Addr), (backTo p4 (starEach es (envF ⟨"__init__", qual, defArgs st, defBody st, defScope st, [(("__class__" : Str), cc)], cda⟩ fI L))).any (·.1) = false)
    (hsw : ∀ (cc cda fI L : Addr), swapsWith (.Call (.Attribute (.Call (.Name "super" p1) [] [] p2) "__init__" p3) (e :: es) [] p4) none p5.line (envF ⟨"__init__", qual, defArgs st, defBody st, defScope st, [(("__class__" : Str), cc)], cda⟩ fI L) = pure false)
    (hev : ∀ (cc cda fI L : Addr), ∃ pl, eval (.Call (.Attribute (.Call (.Name "super" p1) [] [] p2) "__init__" p3) (e :: es) [] p4) (envF ⟨"__init__", qual, defArgs st, defBody st, defScope st, [(("__class__" : Str), cc)], cda⟩ fI L) = (do
      let ov ← attributeBase (.Call (.Name "super" p1) [] [] p2) "__init__" (envF ⟨"__init__", qual, defArgs st, defBody st, defScope st, [(("__class__" : Str), cc)], cda⟩ fI L) (eval (.Call (.Name "super" p1) [] [] p2) (envF ⟨"__init__", qual, defArgs st, defBody st, defScope st, [(("__class__" : Str), cc)], cda⟩ fI L))
      standAt p3.atName
      let (f, first) ← holding [ov] (getMethod ov "__init__" pl)
      callWith p4 f first (backTo p4 (starEach (e :: es) (envF ⟨"__init__", qual, defArgs st, defBody st, defScope st, [(("__class__" : Str), cc)], cda⟩ fI L))) []))
    (hbody : ∀ (X : Cx) (cc cda fI L : Addr), X.K = K → X.N = N → X.env = envF ⟨"__init__", qual, defArgs st, defBody st, defScope st, [(("__class__" : Str), cc)], cda⟩ fI L → OexC K C →
      ∃ (ta : TA) (t : TS), PA X (e :: es) ta ∧ PSs X rest t ∧ ∀ (a : Addr) (xs : List V) (H : Hp) (Q : VK), xs.length = n → H a = some (exo a C none) → cond xs →
        (∀ (d : Addr) (H' : Hp), H d = none → d ≠ a → H' a = some (exo a C (some d)) → H' d = some (exd d (fs xs)) → (∀ b, b ≠ a → b ≠ d → H' b = H b) → Q .non H') →
        ta (startF N (.ref a :: xs) [some (.ref C)]) H fun us H1 => us.length ≤ 1000 ∧ H1 a = some (exo a C none) ∧ t { nx := fun _ H' => Q .non H', rt := Q } (startF N (.ref a :: xs) [some (.ref C)]) H1) :
    ExcOk P w K mg base C cond fs n := by
  obtain ⟨fI, cc, cda, oc, doc, pm, ct, od, osl, Z, lk, hcd⟩ := T.ex
  refine ⟨Z.ox, fI, Z.iC, Z.tI, _, _, sup_ok (F := ⟨"__init__", qual, defArgs st, defBody st, defScope st, [(("__class__" : Str), cc)], cda⟩) (k := 0) (N := N) (ps := ps) (sp := sp_exc C cond fs n) Z hB rfl rfl lk hcd S hps hks (hb cc cda doc pm ct) (he cc cda fI) (hpl cc cda fI) (hsw cc cda fI) (hev cc cda fI) (fun vs H Q E h => ?_) (fun A outer s H vs Q E h => ?_), .all (hb cc cda doc pm ct)⟩
  · obtain ⟨a, xs, rfl, hl, _⟩ := h
    show xs.length + 1 = ps.length + 1
    omega
  · obtain ⟨a, xs, rfl, hl, ea, hc, q⟩ := h
    obtain ⟨ta, t, h1, h2, h3⟩ := hbody (ncx (L2.CX P w) P w K mg base N ⟨"__init__", qual, defArgs st, defBody st, defScope st, [(("__class__" : Str), cc)], cda⟩ fI A outer s H E) cc cda fI s.heap.objs.size rfl rfl rfl Z.ox
    exact ⟨a, xs, ta, t, rfl, ea, h1, h2, h3 a xs H Q hl ea hc q⟩
/-- two stores behind one another, the first one the exception's first -/
theorem two_stores {K : PySem.W.Frag} {a C : Addr} {f1 f2 : Str} {to1 te1 to2 te2 : TE} {D : Ends} {σ : L2.St} {H : Hp} {y1 y2 : V} (T : OexC K C) (h1 : PySem.W.findIn K (.ref C) f1 = some none) (h2 : PySem.W.findIn K (.ref C) f2 = some none) (ea : H a = some (exo a C none))
    (e1 : ∀ (H1 : Hp) (Q : VK), Q y1 H1 → te1 σ H1 Q) (e2 : ∀ (H1 : Hp) (Q : VK), Q y2 H1 → te2 σ H1 Q) (o1 : ∀ (H1 : Hp) (Q : VK), Q (.ref a) H1 → to1 σ H1 Q) (o2 : ∀ (H1 : Hp) (Q : VK), Q (.ref a) H1 → to2 σ H1 Q)
    (q : ∀ (d : Addr) (H' : Hp), H d = none → d ≠ a → H' a = some (exo a C (some d)) → H' d = some (exd d [(f2, y2), (f1, y1)]) → (∀ b, b ≠ a → b ≠ d → H' b = H b) → D.nx σ H') : tSeq (tOst K f1 to1 te1) (tOst K f2 to2 te2) D σ H := by
  refine e1 _ _ (o1 _ _ ⟨a, C, rfl, T, h1, .inl ⟨ea, fun d hd hda => ?_⟩⟩)
  refine e2 _ _ (o2 _ _ ⟨a, C, rfl, T, h2, .inr ⟨d, [(f1, y1)], upd_same, by rw [upd_ne hda, upd_same], (by show 1 ≤ 900; decide), ?_⟩⟩)
  refine q d _ hd hda (by rw [upd_ne hda.symm, upd_same]) upd_same fun b hb hbd => ?_
  rw [upd_ne hbd, upd_ne hb, upd_ne hbd]
/-- four of them -/
theorem four_stores {K : PySem.W.Frag} {a C : Addr} {f1 f2 f3 f4 : Str} {to1 te1 to2 te2 to3 te3 to4 te4 : TE} {D : Ends} {σ : L2.St} {H : Hp} {y1 y2 y3 y4 : V} (T : OexC K C) (h1 : PySem.W.findIn K (.ref C) f1 = some none) (h2 : PySem.W.findIn K (.ref C) f2 = some none) (h3 : PySem.W.findIn K (.ref C) f3 = some none) (h4 : PySem.W.findIn K (.ref C) f4 = some none) (ea : H a = some (exo a C none))
    (e1 : ∀ (H1 : Hp) (Q : VK), Q y1 H1 → te1 σ H1 Q) (e2 : ∀ (H1 : Hp) (Q : VK), Q y2 H1 → te2 σ H1 Q) (e3 : ∀ (H1 : Hp) (Q : VK), Q y3 H1 → te3 σ H1 Q) (e4 : ∀ (H1 : Hp) (Q : VK), Q y4 H1 → te4 σ H1 Q)
    (o1 : ∀ (H1 : Hp) (Q : VK), Q (.ref a) H1 → to1 σ H1 Q) (o2 : ∀ (H1 : Hp) (Q : VK), Q (.ref a) H1 → to2 σ H1 Q) (o3 : ∀ (H1 : Hp) (Q : VK), Q (.ref a) H1 → to3 σ H1 Q) (o4 : ∀ (H1 : Hp) (Q : VK), Q (.ref a) H1 → to4 σ H1 Q)
    (q : ∀ (d : Addr) (H' : Hp), H d = none → d ≠ a → H' a = some (exo a C (some d)) → H' d = some (exd d [(f4, y4), (f3, y3), (f2, y2), (f1, y1)]) → (∀ b, b ≠ a → b ≠ d → H' b = H b) → D.nx σ H') : tSeq (tOst K f1 to1 te1) (tSeq (tOst K f2 to2 te2) (tSeq (tOst K f3 to3 te3) (tOst K f4 to4 te4))) D σ H := by
  refine e1 _ _ (o1 _ _ ⟨a, C, rfl, T, h1, .inl ⟨ea, fun d hd hda => ?_⟩⟩)
  refine e2 _ _ (o2 _ _ ⟨a, C, rfl, T, h2, .inr ⟨d, [(f1, y1)], upd_same, by rw [upd_ne hda, upd_same], (by show 1 ≤ 900; decide), ?_⟩⟩)
  refine e3 _ _ (o3 _ _ ⟨a, C, rfl, T, h3, .inr ⟨d, [(f2, y2), (f1, y1)], by rw [upd_ne hda.symm, upd_same], upd_same, (by show 2 ≤ 900; decide), ?_⟩⟩)
  refine e4 _ _ (o4 _ _ ⟨a, C, rfl, T, h4, .inr ⟨d, [(f3, y3), (f2, y2), (f1, y1)], by rw [upd_ne hda.symm, upd_ne hda.symm, upd_same], upd_same, (by show 3 ≤ 900; decide), ?_⟩⟩)
  refine q d _ hd hda (by rw [upd_ne hda.symm, upd_ne hda.symm, upd_ne hda.symm, upd_same]) upd_same fun b hb hbd => ?_
  rw [upd_ne hbd, upd_ne hbd, upd_ne hbd, upd_ne hb, upd_ne hbd]
end
end LB

set_option Elab.async false
set_option linter.all false
set_option maxRecDepth 100000
set_option maxHeartbeats 4000000
/-! several except clauses, each with or without a name; what is asked of the caught error -/
namespace LB
open PySem PySem.Spec PyProof.Rows L2
/-- behind a suite its name is empty -/
def goneE (i : Nat) (D : Ends) : Ends where
  nx := fun σ H => D.nx (σ.set i none) H
  rt := D.rt
  bk := fun σ H => D.bk (σ.set i none) H
  ct := fun σ H => D.ct (σ.set i none) H
abbrev Clause := Value × Option Nat × (Addr → Value → Option Addr → TS)
/-- what the suite of a clause is asked, the error at a -/
def inSuite (D : Ends) (nm : Option Nat) (t : TS) (a : Addr) (σ : L2.St) (H : Hp) : Prop := match nm with
  | none => t D σ H
  | some i => t (goneE i D) (σ.set i (some (.ref a))) H
def wX (K : PySem.W.Frag) (Wout : WX) (D : Ends) : List Clause → WX
  | [] => Wout
  | (c, nm, ts) :: r => fun cls d σ H => ∃ b, PySem.W.exmOne K cls c = some b ∧ (b = true → ∀ a, H a = none → inSuite D nm (ts a cls d) a σ H) ∧ (b = false → wX K Wout D r cls d σ H)
inductive HdsX (X : Cx) : List ExceptHandler → List Clause → Prop
  | nil : HdsX X [] []
  | plain {x : Str} {c : Value} {ts : Addr → Value → Option Addr → TS} {st : Stmt} {sts : List Stmt} {q1 q2 : Pos} {hds : List ExceptHandler} {l : List Clause} (hc : Names X x c)
      (suite : ∀ (a : Addr) (oe : Obj) (cls : Value) (d : Option Addr) (pn : List (Addr × Obj)), Zc cls d oe → (∃ us, oe.data = .fields us) → PSs (X.suite a ((a, oe) :: pn)) (st :: sts) (ts a cls d)) (more : HdsX X hds l) :
      HdsX X (.ExceptHandler (some (.Name x q1)) none (st :: sts) q2 :: hds) ((c, none, ts) :: l)
  | named {x n : Str} {i : Nat} {c : Value} {ts : Addr → Value → Option Addr → TS} {st : Stmt} {sts : List Stmt} {q1 q2 : Pos} {hds : List ExceptHandler} {l : List Clause} (hN : X.N.Nodup) (hi : X.N[i]? = some n) (hln : X.env.kindOf n = some .local) (hc : Names X x c)
      (suite : ∀ (a : Addr) (oe : Obj) (cls : Value) (d : Option Addr) (pn : List (Addr × Obj)), Zc cls d oe → (∃ us, oe.data = .fields us) → PSs (X.suite a ((a, oe) :: pn)) (st :: sts) (ts a cls d)) (more : HdsX X hds l) :
      HdsX X (.ExceptHandler (some (.Name x q1)) (some n) (st :: sts) q2 :: hds) ((c, some i, ts) :: l)
section
variable {X : Cx} {pins : List (Addr × Obj)} {σ : L2.St} {H : Hp} {sI sN : Shared} {a : Addr} {B : Heap} {cls : Value} {d : Option Addr}
/-- an error that has landed at this frame: the state without it, the ground, where it stands -/
structure Landed (X : Cx) (pins : List (Addr × Obj)) (σ : L2.St) (H : Hp) (sI sN : Shared) (a : Addr) (B : Heap) (cls : Value) (d : Option Addr) : Prop where
  st : X.stack = X.env :: X.outer
  fr : X.env.frame = some X.env.locals
  I : Inv X pins σ H sI
  nb : ∀ b o, sI.heap.get? b = some o → b ∉ frs X.stack → B.get? b = some o
  up : sI.heap.UpToSlots sN.heap
  na : H a = none
  os : sN.os = sI.os
  ag : AllBare sN.gens
  fly : HandSPX.FlyingZ B (X.env :: X.outer) a (Zc cls d) sN.heap
theorem Landed.inv (L : Landed X pins σ H sI sN a B cls d) : Inv X pins σ H sN := L.I.landed L.nb L.fly.1 L.up L.os L.ag
theorem Landed.off (L : Landed X pins σ H sI sN a B cls d) : a ≠ X.env.locals ∧ a ∉ X.fs := by
  obtain ⟨oe, us, e1, e2, e3⟩ := L.fly.there
  have key : a ∉ frs (X.env :: X.outer) := fun hm => by
    obtain ⟨_, o2, q1, q2⟩ := L.fly.2.2.1.mem hm
    rw [e1] at q1
    cases q1
    exact q2 _ e3
  refine ⟨fun z => key (List.mem_filterMap.mpr ⟨X.env, List.mem_cons_self, by rw [L.fr, z]⟩), fun hm => ?_⟩
  obtain ⟨v, h1, h2⟩ := List.mem_filterMap.mp hm
  exact key (List.mem_filterMap.mpr ⟨v, List.mem_cons_of_mem _ h1, h2⟩)
/-- the clauses, one behind the other -/
theorem clauses {Wout : WX} {D : Ends} (tk : Takes X Wout) (L : Landed X pins σ H sI sN a B cls d) : ∀ {hds : List ExceptHandler} {l : List Clause}, HdsX X hds l → wX X.K Wout D l cls d σ H →
    wpAny (model X.prog X.w) X.A (handleBy (.ref a) X.env hds) (SP X pins D) X.xe sN := by
  intro hds l hk
  have ok := L.I.ok
  have J := L.inv
  obtain ⟨off1, off2⟩ := L.off
  obtain ⟨oe3, us3, g3, z3, f3⟩ := L.fly.there
  have S3 := J.suite g3 f3 L.na off1 off2
  -- a clause's class is read, and asked
  have ask : ∀ {x : Str} {c : Value} {q1 : Pos} {b : Bool} {Q : Bool → Shared → Prop}, Names X x c → PySem.W.exmOne X.K cls c = some b → Q b sN → True := fun _ _ _ => trivial
  have name : ∀ {x : Str} {c : Value} {q1 : Pos} {Q : Value → Shared → Prop} {E : Value → Shared → Prop}, Names X x c → Q c sN → wpAny (model X.prog X.w) (X.A.mark (some (.ref a))) (eval (.Name x q1) X.env) Q E sN := fun hc q => by
    obtain ⟨h1, h2, h3⟩ := hc
    rcases h3 with h3 | ⟨h3, h4, h5⟩
    · exact ld_glob (X := X.suite a ((a, oe3) :: (X.pn ++ pins))) S3 h1 h3 q h2
    · exact ld_blt (X := X.suite a ((a, oe3) :: (X.pn ++ pins))) S3 h1 h3 h4 q h5 h2
  have LT : PySem.W.Looks (model X.prog X.w) sN.heap (typeOf (.ref a)) cls := fun A Q E s k q => wpAny_typeOf_ref (k _ _ g3) (by rw [z3.1]; exact q)
  induction hk with
  | nil =>
    intro wish
    refine wpAny_handleBy_nil ?_
    obtain ⟨_, _, _, oe, us, tr, _, _, e1, e2, e3, e4, _⟩ := id L.fly
    unfold PySem.passOn
    refine wpAny_bind (wpAny_field e1 e3 e4 ?_)
    rw [if_neg (show (Value.ref tr == Value.none) = true → False from by simp)]
    have away : wpAny (model X.prog X.w) X.A (setFlight (.ref a) X.env.frame) (fun _ s4 => wpAny (model X.prog X.w) X.A (throw (.ref a) : Sem Flow) (SP X pins D) X.xe s4) X.xe sN := by
      rw [L.fr]
      refine HandSPX.setFlight_upZ L.fly fun h4 held up4 => wpAny_throw (tk _ _ ?_)
      refine ⟨a, B, sI, pins, σ, H, cls, d, rfl, L.I, L.nb, L.up.trans up4, .inr (.inr ?_), L.na, L.os, L.ag, wish⟩
      rw [L.st]
      exact held
    first
      | exact wpAny_bind (wpAny_pure (wpAny_bind away))
      | exact wpAny_bind away
  | @plain x c ts st sts q1 q2 hds2 l2 hc suite more ih =>
    rintro ⟨b, e1, yes, no⟩
    refine wpAny_handleBy_cons (codeAny_handlers_test ?_) (by intro z; cases z)
    refine name hc ((PySem.W.exm_one (M := model X.prog X.w) J.kIn LT e1).here ?_)
    cases b with
    | false => exact ih (no rfl)
    | true =>
      refine codeAny_handlers_suite (HandSPX.lands_againZ L.fly fun h4 fl4 up4 => ?_)
      have J4 : Inv X pins σ H { sN with heap := h4 } := L.I.landed L.nb fl4.1 (L.up.trans up4) L.os L.ag
      obtain ⟨oe4, us4, g4, z4, f4⟩ := fl4.there
      refine wpAny_mono ((suite a oe4 cls d (X.pn ++ pins) z4 ⟨_, f4⟩).run [] _ _ H _ (J4.suite g4 f4 L.na off1 off2) (yes rfl a L.na)) (fun f s6 out => ?_) (fun _ _ z => False.elim z)
      cases f with
      | ret u =>
        obtain ⟨v6, σ6, H6, S6, r6, k6⟩ := out
        exact ⟨v6, σ6, H6, S6.unsuite ok, r6, k6⟩
      | next =>
        obtain ⟨σ6, H6, S6, k6⟩ := out
        exact ⟨σ6, H6, S6.unsuite ok, k6⟩
      | brk =>
        obtain ⟨σ6, H6, S6, k6⟩ := out
        exact ⟨σ6, H6, S6.unsuite ok, k6⟩
      | cont =>
        obtain ⟨σ6, H6, S6, k6⟩ := out
        exact ⟨σ6, H6, S6.unsuite ok, k6⟩
  | @named x n i c ts st sts q1 q2 hds2 l2 hN hi hln hc suite more ih =>
    rintro ⟨b, e1, yes, no⟩
    refine wpAny_handleBy_cons (codeAny_handlers_test ?_) (by intro z; cases z)
    refine name hc ((PySem.W.exm_one (M := model X.prog X.w) J.kIn LT e1).here ?_)
    cases b with
    | false => exact ih (no rfl)
    | true =>
      refine codeAny_handlers_suite_as (HandSPX.lands_againZ L.fly fun h4 fl4 up4 => ?_)
      have J4 : Inv X pins σ H { sN with heap := h4 } := L.I.landed L.nb fl4.1 (L.up.trans up4) L.os L.ag
      obtain ⟨oe4, us4, g4, z4, f4⟩ := fl4.there
      refine store_ok (X := X.suite a ((a, oe4) :: (X.pn ++ pins))) (v := .ref a) (J4.suite g4 f4 L.na off1 off2) hN hi (.inl hln) rfl (fun s5 S5 => ?_) (.inr hln)
      have leave : ∀ {σ6 : L2.St} {H6 : Hp} {s6 : Shared} {Q : Shared → Prop}, Inv (X.suite a ((a, oe4) :: (X.pn ++ pins))) [] σ6 H6 s6 → (∀ s7, Inv X pins (σ6.set i none) H6 s7 → Q s7) →
          wpAny (model X.prog X.w) X.A (do bindName X.env n .none; unbindBehindTheSuite X.env n q2) (fun _ s7 => Q s7) X.xe s6 := fun S6 k => gone_ok (S6.unsuite ok) hN hi hln k
      refine wpAny_mono ((suite a oe4 cls d (X.pn ++ pins) z4 ⟨_, f4⟩).run [] s5 _ H _ S5 (yes rfl a L.na)) (fun f s6 out => ?_) (fun _ _ z => False.elim z)
      cases f with
      | ret u =>
        obtain ⟨v6, σ6, H6, S6, r6, k6⟩ := out
        exact leave S6 fun s7 J7 => ⟨v6, _, H6, J7, r6, k6⟩
      | next =>
        obtain ⟨σ6, H6, S6, k6⟩ := out
        exact leave S6 fun s7 J7 => ⟨_, H6, J7, k6⟩
      | brk =>
        obtain ⟨σ6, H6, S6, k6⟩ := out
        exact leave S6 fun s7 J7 => ⟨_, H6, J7, k6⟩
      | cont =>
        obtain ⟨σ6, H6, S6, k6⟩ := out
        exact leave S6 fun s7 J7 => ⟨_, H6, J7, k6⟩
end
section
variable {X : Cx} {body : List Stmt} {hd₀ : ExceptHandler} {hds : List ExceptHandler} {l : List Clause} {pos : Pos} {tb : WX → TS} {Wout : WX}
theorem ps_tryX (st : X.stack = X.env :: X.outer) (fr : X.env.frame = some X.env.locals) (tk : Takes X Wout)
    (hb : ∀ (W : WX) (pn : List (Addr × Obj)) (xe : Value → Shared → Prop), Takes (X.tr pn xe) W → PassesOwn (model X.prog X.w) X.A X.env xe → PSs (X.tr pn xe) body (tb W)) (hh : HdsX X (hd₀ :: hds) l) :
    PS X (.Try body (hd₀ :: hds) [] [] pos) (fun D σ H => tb (wX X.K Wout D l) D σ H) := by
  refine ⟨fun pins s σ H D I h => ?_⟩
  have ok := I.ok
  have hfr : X.A.frames = some (X.env :: X.outer) := by rw [ok.frames, st]
  have run := hb (wX X.K Wout D l) (X.pn ++ pins) (fun er s1 => wpAny (model X.prog X.w) X.A (noteFrame er X.env) (fun _ s2 => wpAny (model X.prog X.w) X.A (setFlight er none) (fun _ s3 =>
    wpAny (model X.prog X.w) X.A (handleBy er X.env (hd₀ :: hds)) (SP X pins D) X.xe s3) X.xe s2) X.xe s1) (fun u sN air => ?_) PassesOwn.looking
  · refine wpAny_Try_except (wpAny_mono (run.run [] s σ H D (I.toTry _) h) (fun f s1 out => ?_) (fun er s1 he => he))
    cases f with
    | ret u =>
      obtain ⟨v6, σ6, H6, S6, r6, k6⟩ := out
      exact ⟨v6, σ6, H6, S6.ofTry ok, r6, k6⟩
    | next =>
      obtain ⟨σ6, H6, S6, k6⟩ := out
      exact wpAny_execs_nil ⟨σ6, H6, S6.ofTry ok, k6⟩
    | brk =>
      obtain ⟨σ6, H6, S6, k6⟩ := out
      exact ⟨σ6, H6, S6.ofTry ok, k6⟩
    | cont =>
      obtain ⟨σ6, H6, S6, k6⟩ := out
      exact ⟨σ6, H6, S6.ofTry ok, k6⟩
  · obtain ⟨a, B, sI, pins', σ', H', cls, d, rfl, J', nb, up, sky, na, os, ag, wish⟩ := air
    have sky' : Sky B (X.env :: X.outer) a (Zc cls d) X.env.locals sN.heap := by rw [← st]; exact sky
    refine Sky.land Zc.steady hfr fr sky' fun h3 fl3 up3 => ?_
    exact clauses (sN := { sN with heap := h3 }) tk ⟨st, fr, J'.ofTry ok, nb, up.trans up3, na, os, ag, fl3⟩ hh wish
end
end LB
/-! ### isinstance of the caught error -/
namespace PySem.W
open PySem PySem.Spec PySem.Calls PyProof.Rows
section
variable {prog : Program} {w : World} {A : Around} {E : Value → Shared → Prop} {s : Shared} {K : Frag} {x D : Addr} {ox : Obj} {od : Option Obj}
/-- what is asked of the class -/
structure LbExc (K : Frag) (D : Addr) : Prop where
  ga : findIn K (.ref D) "__getattribute__" = some (some (.builtin "BaseException.__getattribute__"))
  gg : findIn K (.ref D) "__getattr__" = some none
  sb : subIn K (.ref D) (.type "BaseException") = some true
  hd : hasDictIn K D = true
  ha : findIn K (.ref D) "__class__" = some (some (.builtin "object.__class__"))
  hn : specialIn K (.builtin "object.__class__") "__get__" = some (some (.builtin "getset_descriptor.__get__"))
  ht : takesIn K (.builtin "object.__class__") = some true
  hm : mroIn K D (.type "object") = some true
theorem lb_find (C : LbExc K D) : findObj K D od "__class__" = some (.bind (.builtin "getset_descriptor.__get__") (.builtin "object.__class__")) := by
  obtain ⟨cd, hc, _⟩ := any_some C.hd
  unfold findObj
  rw [hc, Option.bind_some, C.ha, Option.bind_some]
  simp [C.hn, C.ht]
theorem lb_class {Q : Option Value → Shared → Prop} (C : LbExc K D) (X : K.In s.heap) (I : InstAt s.heap x ox D od) (h : Q (some (.ref D)) { s with toks := s.toks + 1 }) : wpAny (model prog w) A (getAttr? (.ref x) "__class__") Q E s := by
  obtain ⟨hp, g, d, t, os⟩ := s
  have T := I.type (M := model prog w)
  have F3 := looks_find (M := model prog w) X I (lb_find (od := od) C)
  have ne : (Value.builtin "BaseException.__getattribute__" == Value.builtin "object.__getattribute__") = false := by decide +kernel
  unfold getAttr? getAttrBy? getAttrBy
  refine wpAny_bind (wpAny_mkText (wpAny_bind (wpAny_attempt (wpAny_holding (wpAny_bind (T.at (wpAny_bind ((looks_findIn (M := model prog w) X C.ga).at ?_))))))))
  dsimp only
  rw [if_neg (show ¬ (onTheHeap (Value.ref D) && Value.builtin "BaseException.__getattribute__" == Value.builtin "object.__getattribute__") = true by rw [ne, Bool.and_false]; exact Bool.false_ne_true)]
  unfold getAttrByItsOwn hookBefore
  refine wpAny_bind ?_
  rw [if_pos (show onTheHeap (Value.ref D) = true from rfl)]
  refine (looks_findIn (M := model prog w) X C.gg).at (wpAny_bind (wpAny_attempt (wpAny_holding ?_)))
  unfold callGetattribute
  rw [if_neg (show ¬ (false && onTheHeap (Value.builtin "BaseException.__getattribute__")) = true from Bool.false_ne_true)]
  unfold boundAndCalled
  rw [PySem.F.excAttr_ValueError.ga.bind (.ref x)]
  refine wpAny_bind (wpAny_pure (wpAny_call (codeAny_call_builtin PySem.F.excAttr_ValueError.ga.plain PySem.F.entry_bexc_ga ?_)))
  refine @check_slot (model prog w) _ _ ⟨hp, g, d, t + 1, os⟩ "BaseException.__getattribute__" "BaseException" "__getattribute__" (.ref x) [.str "__class__" t] [] _ (by decide +kernel) (by decide +kernel) (T.andThen (looks_subIn X C.sb)) (PySem.F.args_bexc_ga (.ref x) (.str "__class__" t)) ?_
  unfold Builtin.«object.__getattribute__»
  refine wpAny_bind (wpAny_of_eq (a := ((Value.ref x : Value), [Value.str "__class__" t])) (by first | rfl | (simp only [slotArgs]; rfl)) (wpAny_bind (wpAny_pure (wpAny_bind (T.at (wpAny_bind (F3.at ?_)))))))
  refine wpAny_bind (wpAny_holding (wpAny_call (class_get (s := ⟨hp, g, d, t + 1, os⟩) (ox := ox) (od := od) X I C.hm ?_)))
  refine wpAny_pure ?_
  show wpAny _ _ (handedOut (.ref D)) _ _ _
  rw [handedOut_of (v := .ref D) rfl]
  first
    | exact wpAny_pure (wpAny_pure h)
    | exact wpAny_pure h
    | exact wpAny_pure (wpAny_bind (wpAny_pure (wpAny_pure h)))
theorem lb_kit (C : LbExc K D) : KitX K (.ref x) (.ref D) (fun h => ∃ ox od, InstAt h x ox D od) where
  ty := fun _ _ _ ⟨_, _, I⟩ => I.type
  it := fun _ _ X _ => by
    obtain ⟨cdD, hcD, _⟩ := any_some C.hd
    unfold clsIn at hcD
    split at hcD
    · rename_i ho
      intro A' Q' E' s' k q
      unfold isType loadHead
      exact wpAny_bind (wpAny_loadPart (k _ _ (X _ _ ho)) (wpAny_pure q))
    · cases hcD
  ne := fun h tp dd its n sl X htp => by
    obtain ⟨cdD, hcD, _⟩ := any_some C.hd
    refine Bool.eq_false_iff.mpr fun q => ?_
    obtain rfl : D = tp := Value.ref.inj (beq_iff_eq.mp q)
    unfold clsIn at hcD
    split at hcD
    · rename_i ho
      have z := (X _ _ ho).symm.trans htp
      cases z
    · cases hcD
  ca := fun X ⟨_, _, I⟩ k => lb_class C X I k
end
end PySem.W
namespace LB
open PySem PySem.Spec PyProof.Rows L2
@[irreducible] def rIsX (K : PySem.W.Frag) (a D : Addr) (cls : Value) (d : Option Addr) : List V → Hp → VK → Prop := fun xs H Q => ∃ (c : V) (cv : Value) (b : Bool), xs = [.ref a, c] ∧ cls = .ref D ∧ ClsV c cv ∧ PySem.W.kitOne K (.ref D) cv = some b ∧ (∃ dd fs, d = some dd ∧ H dd = some (.xd fs)) ∧ Q (.bl b) H
theorem call_isX {X : Cx} {a D : Addr} {oe : Obj} {cls : Value} {d : Option Addr} {pn : List (Addr × Obj)} (C : PySem.W.LbExc X.K D) (hz : Zc cls d oe) (hf : ∃ vs, oe.data = .fields vs) : CallR (X.suite a ((a, oe) :: pn)) (.builtin "isinstance") (rIsX X.K a D cls d) := by
  intro pins s σ H xs us Q I r h
  unfold rIsX at h
  obtain ⟨c, cv, b, rfl, rfl, hcv, e, ⟨dd, fs, rfl, ed⟩, q⟩ := h
  obtain ⟨u1, u2, rfl, r1, r2⟩ := vals2 r
  obtain rfl := hcv.eq r2
  obtain rfl : u1 = Value.ref a := r1
  obtain ⟨hget, _⟩ := I.pin (a, oe) (List.mem_append.mpr (.inl List.mem_cons_self))
  obtain ⟨vs, hv⟩ := hf
  have hx : ObjOk X.prog X.w H s.heap dd (.xd fs) := I.hok dd _ ed
  obtain ⟨mA, ⟨od, _, _, ho, _⟩, _⟩ := hx
  have J : PySem.W.InstAt s.heap a oe D (some od) := ⟨hget, hz.1, by unfold PySem.W.notCls; rw [hv] <;> rfl, by rw [hz.2]; exact ho⟩
  exact PySem.W.kia_one (PySem.W.lb_kit C) I.kIn ⟨oe, some od, J⟩ e (fun z => nomatch z) fun tk => ⟨.bl b, H, I.kept (t' := tk) fun _ _ z => z, rfl, q⟩
end LB
namespace LB
open PySem PySem.Spec PyProof.Rows L2
/-- an exception class of the text: what raising, catching and asking want of it -/
structure ECls (K : PySem.W.Frag) (C : Addr) : Prop where
  lx : PySem.W.LbExc K C
  ty : PySem.W.typeIn K (.ref C) = some (.type "type")
  self : PySem.W.mroIn K C (.ref C) = some true
theorem ECls.isCls {K : PySem.W.Frag} {C : Addr} (E : ECls K C) : ((PySem.W.clsIn K C).isSome && PySem.W.typeIn K (.ref C) == some (.type "type")) = true := by
  obtain ⟨cd, hc, _⟩ := PySem.W.any_some E.lx.hd
  rw [hc, E.ty]
  rfl
theorem ECls.exm {K : PySem.W.Frag} {Y C : Addr} {b : Bool} (E : ECls K C) (h : PySem.W.subIn K (.ref Y) (.ref C) = some b) : PySem.W.exmOne K (.ref Y) (.ref C) = some b :=
  PySem.W.exm_ref E.lx.sb E.lx.hd E.ty h
theorem ECls.kit {K : PySem.W.Frag} {Y C : Addr} {b : Bool} (E : ECls K C) (h : PySem.W.subIn K (.ref Y) (.ref C) = some b) : PySem.W.kitOne K (.ref Y) (.ref C) = some b := by
  unfold PySem.W.kitOne
  by_cases e : (Value.ref Y == Value.ref C) = true
  · rw [if_pos e]
    have e2 : Y = C := Value.ref.inj (beq_iff_eq.mp e)
    subst e2
    have h2 : PySem.W.mroIn K Y (.ref Y) = some b := h
    rw [E.self] at h2
    exact h2
  · rw [if_neg e]
    show (if ((PySem.W.clsIn K C).isSome && PySem.W.typeIn K (.ref C) == some (.type "type")) = true then PySem.W.subIn K (.ref Y) (.ref C) else none) = some b
    rw [if_pos E.isCls]
    exact h
theorem kit_ve {K : PySem.W.Frag} {Y : Addr} {b : Bool} (h : PySem.W.subIn K (.ref Y) (.type "ValueError") = some b) : PySem.W.kitOne K (.ref Y) (.type "ValueError") = some b := by
  unfold PySem.W.kitOne
  rw [if_neg (show ¬ (Value.ref Y == Value.type "ValueError") = true from fun z => nomatch beq_iff_eq.mp z)]
  show (if PySem.W.kitMeta "ValueError" = true then PySem.W.subIn K (.ref Y) (.type "ValueError") else none) = some b
  rw [if_pos (by decide +kernel)]
  exact h
theorem ECls.xf {K : PySem.W.Frag} {C : Addr} (E : ECls K C) : XfC K C := ⟨E.lx.ga, E.lx.gg, E.lx.sb, E.lx.hd⟩
/-- what an error with one own field holds -/
def fs1 (label field : Str) : List V → List (Str × V) := fun xs => [(field, xs.headD .non), ("label", .str label)]
def text1 : List V → Prop := fun xs => ∃ z : Str, xs = [.str z] ∧ z.length ≤ 1000000
theorem text_len (a z : Str) (h1 : a.length ≤ 1000) (h2 : z.length ≤ 1000000) : (Str.empty ++ a).length ≤ sizeLine ∧ (Str.empty ++ a ++ z).length ≤ sizeLine := by
  have e1 : ∀ x y : Str, (x ++ y).length = x.length + y.length := fun x y => Array.size_append
  have e0 : Str.empty.length = 0 := rfl
  rw [e1, e1, e1, e0, sizeLine_eq]
  omega
section
variable {K : PySem.W.Frag}
theorem wx_hit {Wout : WX} {D : Ends} {c cls : Value} {nm : Option Nat} {ts : Addr → Value → Option Addr → TS} {r : List Clause} {d : Option Addr} {σ : L2.St} {H : Hp} (e : PySem.W.exmOne K cls c = some true) (h : ∀ a, H a = none → inSuite D nm (ts a cls d) a σ H) :
    wX K Wout D ((c, nm, ts) :: r) cls d σ H := ⟨true, e, fun _ => h, fun z => nomatch z⟩
theorem wx_miss {Wout : WX} {D : Ends} {c cls : Value} {nm : Option Nat} {ts : Addr → Value → Option Addr → TS} {r : List Clause} {d : Option Addr} {σ : L2.St} {H : Hp} (e : PySem.W.exmOne K cls c = some false) (h : wX K Wout D r cls d σ H) :
    wX K Wout D ((c, nm, ts) :: r) cls d σ H := ⟨false, e, fun z => (nomatch z), fun _ => h⟩
theorem isX_go {a D C dd : Addr} {fs : List (Str × V)} {b : Bool} {H : Hp} {Q : VK} (k : PySem.W.kitOne K (.ref D) (.ref C) = some b) (e : H dd = some (.xd fs)) (q : Q (.bl b) H) : rIsX K a D (.ref D) (some dd) [.ref a, .ref C] H Q := by
  unfold rIsX
  exact ⟨_, _, b, rfl, rfl, .own _, k, ⟨dd, fs, rfl, e⟩, q⟩
theorem isX_ve {a D dd : Addr} {fs : List (Str × V)} {b : Bool} {H : Hp} {Q : VK} (k : PySem.W.subIn K (.ref D) (.type "ValueError") = some b) (e : H dd = some (.xd fs)) (q : Q (.bl b) H) : rIsX K a D (.ref D) (some dd) [.ref a, .ty "ValueError"] H Q := by
  unfold rIsX
  exact ⟨_, _, b, rfl, rfl, .ty _, kit_ve k, ⟨dd, fs, rfl, e⟩, q⟩
end
end LB

/-! days, months, years -/
namespace LB
open PySem PySem.Spec PyProof.Rows L2
/-- a leap year -/
def leapP (y : Int) : Prop := y % 4 = 0 ∧ (y % 100 ≠ 0 ∨ y % 400 = 0)
instance (y : Int) : Decidable (leapP y) := inferInstanceAs (Decidable (_ ∧ _))
def leapB (y : Int) : Bool := decide (leapP y)
def leapN (y : Int) : Int := if leapP y then 1 else 0
/-- the first day of a year -/
def ystart (y : Int) : Int := 365 * (y - 2000) + (y - 2000 + 3) / 4 - (y - 2000 + 99) / 100 + (y - 2000 + 399) / 400
theorem leapN_b (y : Int) : (if leapB y = true then (1 : Int) else 0) = leapN y := by
  unfold leapB leapN
  by_cases h : leapP y
  · rw [if_pos h, if_pos (decide_eq_true h)]
  · rw [if_neg h, if_neg (by rw [decide_eq_false h]; decide)]
theorem leapN_01 (y : Int) : leapN y = 0 ∨ leapN y = 1 := by unfold leapN; split <;> simp
theorem ystart_next (y : Int) : ystart (y + 1) = ystart y + 365 + leapN y := by
  unfold ystart leapN
  by_cases h : leapP y
  · rw [if_pos h]
    unfold leapP at h
    omega
  · rw [if_neg h]
    unfold leapP at h
    omega
theorem ystart_0 : ystart 2000 = 0 := by decide
theorem ystart_end : ystart 2200 = 73049 := by decide
theorem ystart_low (k : Int) (h : 0 ≤ k) : ystart (2000 + k) ≤ 366 * k := by
  unfold ystart
  omega
theorem ystart_lt {y z : Int} (h : y < z) : ystart y + 365 ≤ ystart z := by
  unfold ystart
  omega
theorem ystart_mono {y z : Int} (h : y ≤ z) : ystart y ≤ ystart z := by
  unfold ystart
  omega
/-- the days of a month -/
def mlen (y m : Int) : Int := if m = 2 then 28 + leapN y else if m = 4 ∨ m = 6 ∨ m = 9 ∨ m = 11 then 30 else 31
/-- the days of the year before a month -/
def mstart (y m : Int) : Int :=
  if m ≤ 1 then 0 else if m = 2 then 31 else leapN y + (if m = 3 then 59 else if m = 4 then 90 else if m = 5 then 120 else if m = 6 then 151 else if m = 7 then 181 else if m = 8 then 212 else if m = 9 then 243 else if m = 10 then 273 else if m = 11 then 304 else if m = 12 then 334 else 365)
theorem mstart_next (y m : Int) (h1 : 1 ≤ m) (h2 : m ≤ 12) : mstart y (m + 1) = mstart y m + mlen y m := by
  unfold mstart mlen
  rcases (by omega : m = 1 ∨ m = 2 ∨ m = 3 ∨ m = 4 ∨ m = 5 ∨ m = 6 ∨ m = 7 ∨ m = 8 ∨ m = 9 ∨ m = 10 ∨ m = 11 ∨ m = 12) with rfl | rfl | rfl | rfl | rfl | rfl | rfl | rfl | rfl | rfl | rfl | rfl <;> simp <;> omega
theorem mstart_1 (y : Int) : mstart y 1 = 0 := by unfold mstart; simp
theorem mstart_13 (y : Int) : mstart y 13 = 365 + leapN y := by unfold mstart; simp; omega
theorem mlen_pos (y m : Int) : 28 ≤ mlen y m ∧ mlen y m ≤ 31 := by
  have := leapN_01 y
  unfold mlen
  split
  · omega
  · split <;> omega
/-- the day of that date -/
def dayOf (y m d : Int) : Int := ystart y + mstart y m + d - 1
/-- (y, m, d) is a date -/
structure IsDate (y m d : Int) : Prop where
  y0 : 2000 ≤ y
  y1 : y ≤ 2199
  m0 : 1 ≤ m
  m1 : m ≤ 12
  d0 : 1 ≤ d
  d1 : d ≤ mlen y m
theorem mstart_mono (y : Int) {m n : Int} (h0 : 1 ≤ m) (h : m < n) (h1 : n ≤ 13) : mstart y m + mlen y m ≤ mstart y n := by
  have key : ∀ k : Nat, m + 1 + k ≤ 13 → mstart y (m + 1) ≤ mstart y (m + 1 + k) := by
    intro k
    induction k with
    | zero => intro _; simp
    | succ k ih =>
      intro hk
      have := ih (by omega)
      have e := mstart_next y (m + 1 + k) (by omega) (by omega)
      have := mlen_pos y (m + 1 + k)
      rw [show m + 1 + ((k + 1 : Nat) : Int) = m + 1 + k + 1 by omega, e]
      omega
  have := key (n - (m + 1)).toNat (by omega)
  rw [mstart_next y m h0 (by omega)] at this
  rw [show m + 1 + ((n - (m + 1)).toNat : Int) = n by omega] at this
  exact this
theorem date_in_year {y m d : Int} (h : IsDate y m d) : ystart y ≤ dayOf y m d ∧ dayOf y m d < ystart (y + 1) := by
  have h1 := mstart_mono y h.m0 (n := 13) (by have := h.m1; omega) (by omega)
  rw [mstart_13] at h1
  have h2 := ystart_next y
  have h3 : 0 ≤ mstart y m := by
    by_cases e : m = 1
    · rw [e, mstart_1]; omega
    · have := mstart_mono y (m := 1) (n := m) (by omega) (by have := h.m0; omega) (by have := h.m1; omega)
      rw [mstart_1] at this
      have := mlen_pos y 1
      omega
  have := h.d0
  have := h.d1
  unfold dayOf
  omega
theorem date_range {y m d : Int} (h : IsDate y m d) : 0 ≤ dayOf y m d ∧ dayOf y m d ≤ 73048 := by
  have h1 := date_in_year h
  have h2 := ystart_mono h.y0
  have h3 := ystart_mono (y := y + 1) (z := 2200) (by have := h.y1; omega)
  rw [ystart_0] at h2
  rw [ystart_end] at h3
  omega
theorem date_inj {y m d y' m' d' : Int} (h : IsDate y m d) (h' : IsDate y' m' d') (e : dayOf y m d = dayOf y' m' d') : y = y' ∧ m = m' ∧ d = d' := by
  have a := date_in_year h
  have b := date_in_year h'
  have ey : y = y' := by
    rcases Int.lt_trichotomy y y' with l | l | l
    · have := ystart_mono (y := y + 1) (z := y') (by omega)
      omega
    · exact l
    · have := ystart_mono (y := y' + 1) (z := y) (by omega)
      omega
  subst ey
  have em : m = m' := by
    unfold dayOf at e
    have := h.d0; have := h.d1; have := h'.d0; have := h'.d1
    rcases Int.lt_trichotomy m m' with l | l | l
    · have := mstart_mono y h.m0 l (by have := h'.m1; omega)
      omega
    · exact l
    · have := mstart_mono y h'.m0 l (by have := h.m1; omega)
      omega
  subst em
  unfold dayOf at e
  exact ⟨rfl, rfl, by omega⟩
theorem mtab (y m : Int) (h1 : 1 ≤ m) (h2 : m ≤ 12) (h : m ≠ 2) : atI [V.int 31, V.int 28, V.int 31, V.int 30, V.int 31, V.int 30, V.int 31, V.int 31, V.int 30, V.int 31, V.int 30, V.int 31] (m - 1) = some (V.int (mlen y m)) := by
  rcases (by omega : m = 1 ∨ m = 3 ∨ m = 4 ∨ m = 5 ∨ m = 6 ∨ m = 7 ∨ m = 8 ∨ m = 9 ∨ m = 10 ∨ m = 11 ∨ m = 12) with rfl | rfl | rfl | rfl | rfl | rfl | rfl | rfl | rfl | rfl | rfl <;> rfl
theorem mlen_2 (y : Int) : (28 : Int) + (if leapB y = true then (1 : Int) else 0) = mlen y 2 := by rw [leapN_b]; rfl
theorem mlen_2' (y : Int) : (if leapB y = true then (29 : Int) else 28) = mlen y 2 := by
  rw [← mlen_2]
  split <;> rfl
theorem mlen_in {y m : Int} (h : inV (V.int m) [V.int 4, V.int 6, V.int 9, V.int 11] = true) : mlen y m = 30 := by
  have e : m = 4 ∨ m = 6 ∨ m = 9 ∨ m = 11 := by
    simp only [inV, eqV, List.any, Bool.or_false, Bool.or_eq_true, beq_iff_eq] at h
    omega
  unfold mlen
  rw [if_neg (by omega), if_pos e]
theorem mlen_out {y m : Int} (h : inV (V.int m) [V.int 4, V.int 6, V.int 9, V.int 11] = false) (h2 : m ≠ 2) : mlen y m = 31 := by
  have e : ¬ (m = 4 ∨ m = 6 ∨ m = 9 ∨ m = 11) := by
    simp only [inV, eqV, List.any, Bool.or_false, Bool.or_eq_false_iff, beq_eq_false_iff_ne] at h
    omega
  unfold mlen
  rw [if_neg h2, if_neg e]
/-! ### every day has a date -/
theorem year_ex {d : Int} (h0 : 0 ≤ d) : ∀ k : Nat, d < ystart (2000 + (k : Int)) → ∃ y, 2000 ≤ y ∧ y < 2000 + (k : Int) ∧ ystart y ≤ d ∧ d < ystart (y + 1)
  | 0, h => by
    rw [show (2000 : Int) + ((0 : Nat) : Int) = 2000 from rfl, ystart_0] at h
    omega
  | k + 1, h => by
    by_cases c : d < ystart (2000 + (k : Int))
    · obtain ⟨y, h1, h2, h3, h4⟩ := year_ex h0 k c
      exact ⟨y, h1, by omega, h3, h4⟩
    · exact ⟨2000 + (k : Int), by omega, by omega, by omega, by rw [show (2000 : Int) + ((k + 1 : Nat) : Int) = 2000 + (k : Int) + 1 by omega] at h; exact h⟩
theorem month_ex (y : Int) {r : Int} (h0 : 0 ≤ r) : ∀ k : Nat, k ≤ 12 → r < mstart y (1 + (k : Int)) → ∃ m, 1 ≤ m ∧ m < 1 + (k : Int) ∧ mstart y m ≤ r ∧ r < mstart y m + mlen y m
  | 0, _, h => by
    rw [show (1 : Int) + ((0 : Nat) : Int) = 1 from rfl, mstart_1] at h
    omega
  | k + 1, hk, h => by
    by_cases c : r < mstart y (1 + (k : Int))
    · obtain ⟨m, h1, h2, h3, h4⟩ := month_ex y h0 k (by omega) c
      exact ⟨m, h1, by omega, h3, h4⟩
    · refine ⟨1 + (k : Int), by omega, by omega, by omega, ?_⟩
      rw [← mstart_next y (1 + (k : Int)) (by omega) (by omega), show (1 : Int) + (k : Int) + 1 = 1 + ((k + 1 : Nat) : Int) by omega]
      exact h
theorem date_ex {d : Int} (h0 : 0 ≤ d) (h1 : d ≤ 73048) : ∃ y m x, IsDate y m x ∧ dayOf y m x = d := by
  obtain ⟨y, a1, a2, a3, a4⟩ := year_ex h0 200 (by rw [show (2000 : Int) + ((200 : Nat) : Int) = 2200 from rfl, ystart_end]; omega)
  have e := ystart_next y
  have e13 := mstart_13 y
  obtain ⟨m, b1, b2, b3, b4⟩ := month_ex y (r := d - ystart y) (by omega) 12 (by decide) (by rw [show (1 : Int) + ((12 : Nat) : Int) = 13 from rfl]; omega)
  exact ⟨y, m, d - ystart y - mstart y m + 1, ⟨a1, by omega, b1, by omega, by omega, by omega⟩, by unfold dayOf; omega⟩
theorem date_lt {y m d y' m' d' : Int} (h : IsDate y m d) (h' : IsDate y' m' d') (e : 12 * y + m < 12 * y' + m') : dayOf y m d < dayOf y' m' d' := by
  have a := date_in_year h
  have b := date_in_year h'
  have := h.m0; have := h.m1; have := h'.m0; have := h'.m1
  by_cases c : y < y'
  · have := ystart_mono (y := y + 1) (z := y') (by omega)
    omega
  · have ey : y = y' := by omega
    subst ey
    have l := mstart_mono y (m := m) (n := m') (by omega) (by omega) (by omega)
    have := h.d1
    have := h'.d0
    unfold dayOf
    omega
end LB

set_option Elab.async false
set_option linter.all false
set_option maxRecDepth 100000
set_option maxHeartbeats 4000000
/-! texts -/
namespace LB
open PySem PySem.Spec PyProof.Rows L2
/-! ### s[i], s[a:b], s + t, len(s), <=, in -/
@[irreducible] def rIxSs : R2 := fun x y H Q => rIxS x y H Q
theorem ix_ss {X : Cx} : IxR X rIxSs := fun value slice pins s σ H x y v u Q I rx ry h hs => ix_str value slice pins s σ H x y v u Q I rx ry (by unfold rIxSs at h; exact h) hs
@[irreducible] def rSlSs : V → Option Int → Option Int → Hp → VK → Prop := fun x lo hi H Q => rSlS x lo hi H Q
theorem sl_ss {X : Cx} : SlR X rSlSs := fun pins s σ H x v vl vu lo hi sl Q I rx hs pl pu h => sl_str pins s σ H x v vl vu lo hi sl Q I rx hs pl pu (by unfold rSlSs at h; exact h)
@[irreducible] def rAddS : R2 := fun x y H Q => ∃ i j, x = .str i ∧ y = .str j ∧ i.length + j.length ≤ sizeLine ∧ Q (.str (i ++ j)) H
theorem op_addS {X : Cx} : OpR X (binaryOp .Add) rAddS := fun pins s σ H x y v u Q I rx ry h => op_add_str pins s σ H x y v u Q I rx ry (by unfold rAddS at h; exact h)
@[irreducible] def rLenS : List V → Hp → VK → Prop := fun xs H Q => ∃ z, xs = [.str z] ∧ z.length ≤ sizeLine ∧ Q (.int z.length) H
theorem call_lenS {X : Cx} : CallR X (.builtin "len") rLenS := fun pins s σ H xs us Q I r h => call_len_str pins s σ H xs us Q I r (by unfold rLenS at h; exact h)
@[irreducible] def rLeS : R2 := fun x y H Q => ∃ i j, x = .str i ∧ y = .str j ∧ Q (.bl (!decide (j.cps.toList < i.cps.toList))) H
theorem op_leS {X : Cx} : OpR X (compareOp .LtE) rLeS := fun pins s σ H x y v u Q I rx ry h => op_le_str pins s σ H x y v u Q I rx ry (by unfold rLeS at h; exact h)
@[irreducible] def rInC (neg : Bool) : R2 := fun x y H Q => ∃ (c : Nat) (z : Str), x = .str ⟨#[c]⟩ ∧ y = .str z ∧ Q (.bl (if neg then !decide (c ∈ z.cps.toList) else decide (c ∈ z.cps.toList))) H
theorem op_inC {X : Cx} : OpR X (compareOp .In) (rInC false) := fun pins s σ H x y v u Q I rx ry h => op_in_sign pins s σ H x y v u Q I rx ry (by unfold rInC at h; exact h)
theorem op_niC {X : Cx} : OpR X (compareOp .NotIn) (rInC true) := fun pins s σ H x y v u Q I rx ry h => op_notIn_sign pins s σ H x y v u Q I rx ry (by unfold rInC at h; exact h)
section
variable {H : Hp} {Q : VK} {z y : Str} {i : Int} {c : Nat} {lo hi : Option Int}
theorem ixS_go (h : z.length ≤ sizeLine) (e : atI z.cps.toList i = some c) (q : Q (.str ⟨#[c]⟩) H) : rIxSs (.str z) (.int i) H Q := by
  unfold rIxSs
  exact ⟨z, i, c, rfl, rfl, h, e, q⟩
theorem slS_go (h : z.length ≤ sizeLine) (q : Q (.str (cutS z lo hi)) H) : rSlSs (.str z) lo hi H Q := by
  unfold rSlSs
  exact ⟨z, rfl, h, q⟩
theorem addS_go (h : z.length + y.length ≤ sizeLine) (q : Q (.str (z ++ y)) H) : rAddS (.str z) (.str y) H Q := by
  unfold rAddS
  exact ⟨z, y, rfl, rfl, h, q⟩
theorem lenS_go (h : z.length ≤ sizeLine) (q : Q (.int z.length) H) : rLenS [.str z] H Q := by
  unfold rLenS
  exact ⟨z, rfl, h, q⟩
theorem leS_go (q : Q (.bl (!decide (y.cps.toList < z.cps.toList))) H) : rLeS (.str z) (.str y) H Q := by
  unfold rLeS
  exact ⟨z, y, rfl, rfl, q⟩
theorem inC_go (q : Q (.bl (decide (c ∈ z.cps.toList))) H) : rInC false (.str ⟨#[c]⟩) (.str z) H Q := by
  unfold rInC
  exact ⟨c, z, rfl, rfl, q⟩
theorem niC_go (q : Q (.bl (!decide (c ∈ z.cps.toList))) H) : rInC true (.str ⟨#[c]⟩) (.str z) H Q := by
  unfold rInC
  exact ⟨c, z, rfl, rfl, q⟩
end
/-! ### for c in s -/
theorem for_txt {z : Str} {g : TG} {tb : TS} {D : Ends} {σ : L2.St} {H : Hp} (Pv : Nat → L2.St → Hp → Prop) (h0 : Pv 0 σ H)
    (hs : ∀ (i : Nat) (c : Nat) (σ : L2.St) (H : Hp), z.cps.toList[i]? = some c → Pv i σ H → g (.str ⟨#[c]⟩) σ H fun σ2 H2 => tb { D with nx := Pv (i + 1), ct := Pv (i + 1), bk := D.nx } σ2 H2) (hd : ∀ σ H, Pv z.cps.size σ H → D.nx σ H) :
    ∃ W : Nat → Nat → L2.St → Hp → Prop, (∃ m, W 0 m σ H) ∧ ∀ i m σ H, W i m σ H →
      ((Its z).stop i H ∧ D.nx σ H) ∨ ((Its z).go i H ∧ ∃ N : L2.St → Hp → Prop, (∀ σ' H', N σ' H' → ∃ m', m' < m ∧ W (i + 1) m' σ' H') ∧ ∀ x H', (Its z).yld i H x H' → g x σ H' fun σ2 H2 => tb { D with nx := N, ct := N, bk := D.nx } σ2 H2) := by
  refine ⟨fun i m σ H => m = z.cps.size - i ∧ i ≤ z.cps.size ∧ Pv i σ H, ⟨z.cps.size, by simp, Nat.zero_le _, h0⟩, ?_⟩
  rintro i m σ H ⟨rfl, hi, p⟩
  by_cases hlt : i < z.cps.size
  · refine .inr ⟨hlt, Pv (i + 1), fun σ' H' p' => ⟨z.cps.size - (i + 1), by omega, rfl, hlt, p'⟩, fun x H' y => ?_⟩
    obtain ⟨rfl, c, e, rfl⟩ := y
    exact hs i c σ H' (by rw [Array.getElem?_toList]; exact e) p
  · have e : i = z.cps.size := by omega
    subst e
    exact .inl ⟨Nat.le_refl _, hd σ H p⟩
/-! ### plain facts -/
theorem lt_one {a b : Nat} : (([a] : List Nat) < [b]) ↔ a < b := by
  constructor
  · intro h
    cases h with
    | rel h => exact h
    | cons h => cases h
  · intro h
    exact .rel h
theorem okS_of {z : Str} (h : ∀ c ∈ z.cps.toList, c < 1114112) : okS z = true := by
  unfold okS
  refine List.all_eq_true.mpr fun c hc => ?_
  rw [Nat.blt_eq]
  exact h c hc
theorem okS_mem {z : Str} (h : okS z = true) : ∀ c ∈ z.cps.toList, c < 1114112 := fun c hc => by
  unfold okS at h
  have := List.all_eq_true.mp h c hc
  rw [Nat.blt_eq] at this
  exact this
theorem okS_app {y z : Str} (h : okS y = true) (k : okS z = true) : okS (y ++ z) = true := okS_of fun c hc => by
  have e : (y ++ z).cps.toList = y.cps.toList ++ z.cps.toList := Array.toList_append
  rw [e, List.mem_append] at hc
  exact hc.elim (okS_mem h c) (okS_mem k c)
theorem okS_cut {z : Str} (h : okS z = true) (lo hi : Option Int) : okS (cutS z lo hi) = true := okS_of fun c hc => by
  have e : (cutS z lo hi).cps.toList = ((z.cps.toList.drop (HT.sIx z.length 0 lo)).take (HT.sIx z.length z.length hi - HT.sIx z.length 0 lo)) := rfl
  rw [e] at hc
  exact okS_mem h c (List.mem_of_mem_drop (List.mem_of_mem_take hc))
theorem okS_one {c : Nat} (h : c < 1114112) : okS ⟨#[c]⟩ = true := okS_of fun d hd => by
  have e : (⟨#[c]⟩ : Str).cps.toList = [c] := rfl
  rw [e, List.mem_singleton] at hd
  omega
theorem len_app {y z : Str} : (y ++ z).length = y.length + z.length := Array.size_append
theorem len_cut (z : Str) (lo hi : Option Int) : (cutS z lo hi).length ≤ z.length := by
  show (((z.cps.toList.drop (HT.sIx z.length 0 lo)).take (HT.sIx z.length z.length hi - HT.sIx z.length 0 lo)).toArray).size ≤ z.length
  rw [List.size_toArray, List.length_take, List.length_drop]
  have : z.cps.toList.length = z.length := rfl
  omega
theorem len_list (z : Str) : z.cps.toList.length = z.length := rfl
theorem atI_txt {z : Str} {i : Int} (j : Nat) (h : j < z.length) (e : i = j) : ∃ c, z.cps.toList[j]? = some c ∧ c ∈ z.cps.toList ∧ atI z.cps.toList i = some c := by
  subst e
  have h' : j < z.cps.toList.length := h
  exact ⟨_, List.getElem?_eq_getElem h', List.getElem_mem h', atI_nat (List.getElem?_eq_getElem h')⟩
/-! ### names -/
def lowC (c : Nat) : Bool := decide (97 ≤ c) && decide (c ≤ 122)
def digC (c : Nat) : Bool := decide (48 ≤ c) && decide (c ≤ 57)
def headC : List Nat → Bool
  | c :: _ => lowC c
  | [] => false
def nameB (z : Str) : Bool := (decide (1 ≤ z.length) && decide (z.length ≤ 12)) && (headC z.cps.toList && z.cps.toList.all fun c => lowC c || digC c)
theorem low_le (c : Nat) : (!decide ([c] < [97])) = decide (97 ≤ c) := by
  by_cases h : 97 ≤ c
  · rw [decide_eq_true h, decide_eq_false (by rw [lt_one]; omega)]; rfl
  · rw [decide_eq_false h, decide_eq_true (by rw [lt_one]; omega)]; rfl
theorem in_low (c : Nat) : decide (c ∈ ("abcdefghijklmnopqrstuvwxyz" : Str).cps.toList) = lowC c := by
  have e : ("abcdefghijklmnopqrstuvwxyz" : Str).cps.toList = [97, 98, 99, 100, 101, 102, 103, 104, 105, 106, 107, 108, 109, 110, 111, 112, 113, 114, 115, 116, 117, 118, 119, 120, 121, 122] := by decide +kernel
  rw [e]
  unfold lowC
  rw [Bool.eq_iff_iff, Bool.and_eq_true, decide_eq_true_iff, decide_eq_true_iff, decide_eq_true_iff]
  simp only [List.mem_cons, List.not_mem_nil, or_false]
  omega
theorem in_dig (c : Nat) : decide (c ∈ ("0123456789" : Str).cps.toList) = digC c := by
  have e : ("0123456789" : Str).cps.toList = [48, 49, 50, 51, 52, 53, 54, 55, 56, 57] := by decide +kernel
  rw [e]
  unfold digC
  rw [Bool.eq_iff_iff, Bool.and_eq_true, decide_eq_true_iff, decide_eq_true_iff, decide_eq_true_iff]
  simp only [List.mem_cons, List.not_mem_nil, or_false]
  omega
/-! ### sep.join(xs) -/
@[irreducible] def rJoinS (K : PySem.W.Frag) : V → List V → Hp → VK → Prop := fun x xs H Q => ∃ a p, ∃ ys : List Str, x = .str a ∧ xs = [.ref p] ∧ (SqL K H p (ys.map V.str) ∨ SqT K H p (ys.map V.str)) ∧ (ys.map (·.length)).sum + ys.length * a.length ≤ 16777216 ∧ Q (.str (Txt.join a ys)) H
theorem mt_joinS {X : Cx} : MtR X "str.join" (rJoinS X.K) := fun pins s σ H x xs v us Q I rx rs h => mt_join pins s σ H x xs v us Q I rx rs (by unfold rJoinS at h; exact h)
theorem joinS_go {K : PySem.W.Frag} {H : Hp} {Q : VK} {a : Str} {p : Addr} {ys : List Str} (h : SqL K H p (ys.map V.str)) (hz : (ys.map (·.length)).sum + ys.length * a.length ≤ 16777216) (q : Q (.str (Txt.join a ys)) H) : rJoinS K (.str a) [.ref p] H Q := by
  unfold rJoinS
  exact ⟨a, p, ys, rfl, rfl, .inl h, hz, q⟩
theorem nameB_iff {z : Str} : nameB z = true ↔ 1 ≤ z.length ∧ z.length ≤ 12 ∧ headC z.cps.toList = true ∧ ∀ c ∈ z.cps.toList, (lowC c || digC c) = true := by
  unfold nameB
  rw [Bool.and_eq_true, Bool.and_eq_true, Bool.and_eq_true, decide_eq_true_iff, decide_eq_true_iff, List.all_eq_true]
  exact ⟨fun h => ⟨h.1.1, h.1.2, h.2.1, h.2.2⟩, fun h => ⟨⟨h.1, h.2.1⟩, h.2.2.1, h.2.2.2⟩⟩
theorem nameB_no {z : Str} (h : ¬ (1 ≤ z.length ∧ z.length ≤ 12 ∧ headC z.cps.toList = true ∧ ∀ c ∈ z.cps.toList, (lowC c || digC c) = true)) : nameB z = false := by
  rw [Bool.eq_false_iff]
  exact fun k => h (nameB_iff.mp k)
theorem head_of {z : Str} {c : Nat} (e : z.cps.toList[0]? = some c) : headC z.cps.toList = lowC c := by
  cases h : z.cps.toList with
  | nil => rw [h] at e; cases e
  | cons d r =>
    rw [h] at e
    cases e
    rfl
theorem tl_join0 : ∀ ys : List Str, (Txt.join Str.empty ys).cps.toList = ys.flatMap (fun y => y.cps.toList)
  | [] => rfl
  | [x] => by rw [TL.join_eq]; exact (List.append_nil _).symm
  | x :: z :: r => by
    have ih := tl_join0 (z :: r)
    rw [TL.join_eq] at ih ⊢
    show ((x ++ Str.empty ++ Str.join Str.empty (z :: r)).cps).toList = _
    have e1 : (x ++ Str.empty ++ Str.join Str.empty (z :: r)).cps.toList = x.cps.toList ++ (Str.join Str.empty (z :: r)).cps.toList := by
      show ((x.cps ++ #[]) ++ (Str.join Str.empty (z :: r)).cps).toList = _
      rw [Array.append_empty, Array.toList_append]
    rw [e1, ih]
    rfl
theorem join_chars (ys : List Nat) : (Txt.join Str.empty (ys.map fun c => (⟨#[c]⟩ : Str))).cps.toList = ys := by
  rw [tl_join0]
  induction ys with
  | nil => rfl
  | cons a r ih =>
    rw [List.map_cons, List.flatMap_cons, ih]
    rfl
theorem join_len (ys : List Nat) : (Txt.join Str.empty (ys.map fun c => (⟨#[c]⟩ : Str))).length = ys.length := by
  have e := join_chars ys
  have : (Txt.join Str.empty (ys.map fun c => (⟨#[c]⟩ : Str))).cps.toList.length = ys.length := by rw [e]
  exact this
theorem join_ok {ys : List Nat} (h : ∀ c ∈ ys, c < 1114112) : okS (Txt.join Str.empty (ys.map fun c => (⟨#[c]⟩ : Str))) = true := okS_of fun c hc => by
  rw [join_chars] at hc
  exact h c hc
theorem sum_ones (ys : List Nat) : ((ys.map fun c => (⟨#[c]⟩ : Str)).map (·.length)).sum = ys.length := by
  induction ys with
  | nil => rfl
  | cons a r ih =>
    rw [List.map_cons, List.map_cons, List.sum_cons, ih]
    show 1 + r.length = r.length + 1
    omega
end LB

set_option Elab.async false
set_option linter.all false
set_option maxRecDepth 100000
set_option maxHeartbeats 4000000
/-! written dates -/
namespace LB
open PySem PySem.Spec PyProof.Rows L2
open PySem.NumText (AllDigits digitsVal)
@[irreducible] def rIntS : List V → Hp → VK → Prop := fun xs H Q => ∃ a n, xs = [.str a] ∧ PySem.intText? a = some n ∧ a.length ≤ 640 ∧ Q (.int n) H
theorem call_intS {X : Cx} : CallR X (.type "int") rIntS := fun pins s σ H xs us Q I r h => call_int_str pins s σ H xs us Q I r (by unfold rIntS at h; exact h)
@[irreducible] def rStrI : List V → Hp → VK → Prop := fun xs H Q => ∃ i : Int, xs = [.int i] ∧ i.natAbs.log2 < 1920 ∧ Q (.str (toString i)) H
theorem call_strI {X : Cx} : CallR X (.type "str") rStrI := fun pins s σ H xs us Q I r h => call_str_int pins s σ H xs us Q I r (by unfold rStrI at h; exact h)
/-- the number that digits write -/
def dv (z : Str) (lo hi : Option Int) : Int := ((digitsVal (cutS z lo hi).cps.toList : Nat) : Int)
section
variable {H : Hp} {Q : VK}
theorem intS_go {z : Str} {n : Int} (h : PySem.intText? z = some n) (hl : z.length ≤ 640) (q : Q (.int n) H) : rIntS [.str z] H Q := by
  unfold rIntS
  exact ⟨z, n, rfl, h, hl, q⟩
theorem strI_go {i : Int} (h : i.natAbs.log2 < 1920) (q : Q (.str (toString i)) H) : rStrI [.int i] H Q := by
  unfold rStrI
  exact ⟨i, rfl, h, q⟩
end
theorem intT {z : Str} {lo hi : Option Int} (h : ∀ c ∈ (cutS z lo hi).cps.toList, digC c = true) (hn : (cutS z lo hi).cps.toList ≠ []) (hl : z.length ≤ 600) : PySem.intText? (cutS z lo hi) = some (dv z lo hi) := by
  refine PySem.intText_digits (fun c hc => ?_) hn (Nat.le_trans (len_cut z lo hi) (by omega))
  have := h c hc
  unfold digC at this
  rw [Bool.and_eq_true, decide_eq_true_iff, decide_eq_true_iff] at this
  exact this
/-- ten signs, two of them strokes, the others digits -/
def writB (z : Str) : Bool := match z.cps.toList with
  | [a, b, c, d, s, e, f, t, g, h] => decide (s = 45) && (decide (t = 45) && ((digC a && (digC b && (digC c && digC d))) && ((digC e && digC f) && (digC g && digC h))))
  | _ => false
def dateB (z : Str) : Bool := writB z && decide ((2000 ≤ dv z none (some 4) ∧ dv z none (some 4) ≤ 2199 ∧ 1 ≤ dv z (some 5) (some 7) ∧ dv z (some 5) (some 7) ≤ 12) ∧ (1 ≤ dv z (some 8) none ∧ dv z (some 8) none ≤ mlen (dv z none (some 4)) (dv z (some 5) (some 7))))
theorem writ_ten {z : Str} (h : writB z = true) : ∃ a b c d e f g k : Nat, z.cps.toList = [a, b, c, d, 45, e, f, 45, g, k] ∧ digC a = true ∧ digC b = true ∧ digC c = true ∧ digC d = true ∧ digC e = true ∧ digC f = true ∧ digC g = true ∧ digC k = true := by
  unfold writB at h
  split at h
  · rename_i a b c d s e f t g k e0
    simp only [Bool.and_eq_true, decide_eq_true_eq] at h
    obtain ⟨rfl, rfl, ⟨h1, h2, h3, h4⟩, ⟨h5, h6⟩, h7, h8⟩ := h
    exact ⟨a, b, c, d, e, f, g, k, e0, h1, h2, h3, h4, h5, h6, h7, h8⟩
  · cases h
theorem list10 {l : List Nat} (h : l.length = 10) : ∃ a b c d s e f t g k, l = [a, b, c, d, s, e, f, t, g, k] := by
  match l, h with
  | [a, b, c, d, s, e, f, t, g, k], _ => exact ⟨a, b, c, d, s, e, f, t, g, k, rfl⟩
theorem writ_iff {z : Str} : writB z = true ↔ z.length = 10 ∧ ∀ i, i < 10 → ∀ c, z.cps.toList[i]? = some c → (if i = 4 ∨ i = 7 then c = 45 else digC c = true) := by
  constructor
  · intro h
    obtain ⟨a, b, c, d, e, f, g, k, e0, h1, h2, h3, h4, h5, h6, h7, h8⟩ := writ_ten h
    refine ⟨by rw [← len_list, e0]; rfl, fun i hi x hx => ?_⟩
    rw [e0] at hx
    match i, hi, hx with
    | 0, _, hx => cases hx; exact h1
    | 1, _, hx => cases hx; exact h2
    | 2, _, hx => cases hx; exact h3
    | 3, _, hx => cases hx; exact h4
    | 4, _, hx => cases hx; rfl
    | 5, _, hx => cases hx; exact h5
    | 6, _, hx => cases hx; exact h6
    | 7, _, hx => cases hx; rfl
    | 8, _, hx => cases hx; exact h7
    | 9, _, hx => cases hx; exact h8
  · rintro ⟨hl, hh⟩
    rw [← len_list] at hl
    obtain ⟨a, b, c, d, s, e, f, t, g, k, e0⟩ := list10 hl
    rw [e0] at hh
    have h0 : digC a = true := hh 0 (by decide) a rfl
    have h1 : digC b = true := hh 1 (by decide) b rfl
    have h2 : digC c = true := hh 2 (by decide) c rfl
    have h3 : digC d = true := hh 3 (by decide) d rfl
    have h4 : s = 45 := hh 4 (by decide) s rfl
    have h5 : digC e = true := hh 5 (by decide) e rfl
    have h6 : digC f = true := hh 6 (by decide) f rfl
    have h7 : t = 45 := hh 7 (by decide) t rfl
    have h8 : digC g = true := hh 8 (by decide) g rfl
    have h9 : digC k = true := hh 9 (by decide) k rfl
    unfold writB
    rw [e0]
    simp only [h0, h1, h2, h3, h4, h5, h6, h7, h8, h9, decide_true, Bool.and_self]
theorem cut_ten {z : Str} {a b c d s e f t g k : Nat} (e0 : z.cps.toList = [a, b, c, d, s, e, f, t, g, k]) : (cutS z none (some 4)).cps.toList = [a, b, c, d] ∧ (cutS z (some 5) (some 7)).cps.toList = [e, f] ∧ (cutS z (some 8) none).cps.toList = [g, k] := by
  have hl : z.length = 10 := by rw [← len_list, e0]; rfl
  refine ⟨?_, ?_, ?_⟩
  all_goals
    unfold cutS
    rw [e0, hl]
    rfl
theorem writ_ints {z : Str} (h : writB z = true) : PySem.intText? (cutS z none (some 4)) = some (dv z none (some 4)) ∧ PySem.intText? (cutS z (some 5) (some 7)) = some (dv z (some 5) (some 7)) ∧ PySem.intText? (cutS z (some 8) none) = some (dv z (some 8) none) := by
  obtain ⟨a, b, c, d, e, f, g, k, e0, h1, h2, h3, h4, h5, h6, h7, h8⟩ := writ_ten h
  obtain ⟨c1, c2, c3⟩ := cut_ten e0
  have hl : z.length ≤ 600 := by rw [← len_list, e0]; show 10 ≤ 600; decide
  refine ⟨intT ?_ (by rw [c1]; intro h; cases h) hl, intT ?_ (by rw [c2]; intro h; cases h) hl, intT ?_ (by rw [c3]; intro h; cases h) hl⟩
  · rw [c1]
    intro x hx
    simp only [List.mem_cons, List.not_mem_nil, or_false] at hx
    rcases hx with rfl | rfl | rfl | rfl <;> assumption
  · rw [c2]
    intro x hx
    simp only [List.mem_cons, List.not_mem_nil, or_false] at hx
    rcases hx with rfl | rfl <;> assumption
  · rw [c3]
    intro x hx
    simp only [List.mem_cons, List.not_mem_nil, or_false] at hx
    rcases hx with rfl | rfl <;> assumption
/-! ### numbers, padded -/
def padS (size : Nat) (t : Str) : Str := if t.length < size then "0" ++ t else t
def padR (n : Int) (size : Nat) : Nat → Str
  | 0 => toString n
  | k + 1 => padS size (padR n size k)
@[irreducible] def padT (n : Int) (size k : Nat) : Str := padR n size k
theorem padT_0 {n : Int} {size : Nat} : padT n size 0 = toString n := by unfold padT; rfl
theorem padT_y {n : Int} {size k : Nat} (h : (padT n size k).length < size) : padT n size (k + 1) = "0" ++ padT n size k := by
  unfold padT at *
  exact if_pos h
theorem padT_n {n : Int} {size k : Nat} (h : ¬ (padT n size k).length < size) : padT n size (k + 1) = padT n size k := by
  unfold padT at *
  exact if_neg h
theorem pad2 : ∀ n : Nat, n < 32 → (padT (n : Int) 2 2).cps.toList = [48 + n / 10, 48 + n % 10] := by decide +kernel
theorem pad4 : ∀ n : Nat, n < 200 → (padT ((2000 + n : Nat) : Int) 4 4).cps.toList = [50, 48 + n / 100, 48 + n / 10 % 10, 48 + n % 10] := by decide +kernel
theorem str_len (n : Nat) (h : n < 10000) : (Str.ofString (toString ((n : Nat) : Int))).length ≤ 4 := by
  have h2 := (Nat.length_repr_le_iff (n := n) (by decide : 0 < 4)).mpr h
  rw [← String.length_toList] at h2
  show (Str.ofString (Nat.repr n)).cps.size ≤ 4
  rw [Str.ofString_eq_toList]
  simpa using h2
theorem padT_len {n : Int} {size : Nat} (h0 : 0 ≤ n) (h1 : n ≤ 9999) : ∀ k, (padT n size k).length ≤ 4 + k
  | 0 => by
    obtain ⟨m, rfl⟩ : ∃ m : Nat, n = m := ⟨n.toNat, by omega⟩
    rw [padT_0]
    exact str_len m (by omega)
  | k + 1 => by
    have ih := padT_len (size := size) h0 h1 k
    by_cases h : (padT n size k).length < size
    · rw [padT_y h, len_app]
      show 1 + _ ≤ _
      omega
    · rw [padT_n h]
      omega
theorem tl_app (a b : Str) : (a ++ b).cps.toList = a.cps.toList ++ b.cps.toList := Array.toList_append
theorem wr_date {y m x : Int} (h : IsDate y m x) {z : Str} (e : z = padT y 4 4 ++ "-" ++ padT m 2 2 ++ "-" ++ padT x 2 2) : z.length = 10 ∧ okS z = true ∧ dateB z = true ∧ dv z none (some 4) = y ∧ dv z (some 5) (some 7) = m ∧ dv z (some 8) none = x := by
  have y0 := h.y0; have y1 := h.y1; have m0 := h.m0; have m1 := h.m1; have x0 := h.d0; have x1 := h.d1
  have hml := mlen_pos y m
  obtain ⟨a, ha, rfl⟩ : ∃ a : Nat, a < 200 ∧ y = ((2000 + a : Nat) : Int) := ⟨(y - 2000).toNat, by omega, by omega⟩
  obtain ⟨b, hb, rfl⟩ : ∃ b : Nat, b < 32 ∧ m = ((b : Nat) : Int) := ⟨m.toNat, by omega, by omega⟩
  obtain ⟨c, hc, rfl⟩ : ∃ c : Nat, c < 32 ∧ x = ((c : Nat) : Int) := ⟨x.toNat, by omega, by omega⟩
  have e1 : ("-" : Str).cps.toList = [45] := by decide +kernel
  have e0 : z.cps.toList = [50, 48 + a / 100, 48 + a / 10 % 10, 48 + a % 10, 45, 48 + b / 10, 48 + b % 10, 45, 48 + c / 10, 48 + c % 10] := by
    rw [e, tl_app, tl_app, tl_app, tl_app, pad4 a ha, pad2 b hb, pad2 c hc, e1]
    rfl
  have hl : z.length = 10 := by rw [← LB.len_list, e0]; rfl
  obtain ⟨k1, k2, k3⟩ := cut_ten e0
  have v1 : dv z none (some 4) = ((2000 + a : Nat) : Int) := by
    unfold dv
    rw [k1]
    simp only [digitsVal, List.foldl]
    omega
  have v2 : dv z (some 5) (some 7) = (b : Int) := by
    unfold dv
    rw [k2]
    simp only [digitsVal, List.foldl]
    omega
  have v3 : dv z (some 8) none = (c : Int) := by
    unfold dv
    rw [k3]
    simp only [digitsVal, List.foldl]
    omega
  have dg : ∀ n : Nat, n < 10 → digC (48 + n) = true := fun n hn => by
    unfold digC
    rw [Bool.and_eq_true, decide_eq_true_iff, decide_eq_true_iff]
    omega
  have hw : writB z = true := by
    have g0 : digC 50 = true := by decide
    have g1 := dg (a / 100) (by omega)
    have g2 := dg (a / 10 % 10) (by omega)
    have g3 := dg (a % 10) (by omega)
    have g4 := dg (b / 10) (by omega)
    have g5 := dg (b % 10) (by omega)
    have g6 := dg (c / 10) (by omega)
    have g7 := dg (c % 10) (by omega)
    unfold writB
    rw [e0]
    simp only [g0, g1, g2, g3, g4, g5, g6, g7, decide_true, Bool.and_self]
  refine ⟨hl, okS_of fun d hd => ?_, ?_, v1, v2, v3⟩
  · rw [e0] at hd
    simp only [List.mem_cons, List.not_mem_nil, or_false] at hd
    omega
  · unfold dateB
    rw [hw, v1, v2, v3, Bool.true_and, decide_eq_true_iff]
    exact ⟨⟨y0, y1, m0, m1⟩, x0, x1⟩
theorem cutV_map (ns : List Int) (lo hi : Option Int) : ∃ ms : List Int, cutV (ns.map V.int) lo hi = ms.map V.int ∧ ms.length ≤ ns.length := by
  refine ⟨(ns.drop (HT.sIx (ns.map V.int).length 0 lo)).take (HT.sIx (ns.map V.int).length (ns.map V.int).length hi - HT.sIx (ns.map V.int).length 0 lo), ?_, ?_⟩
  · unfold cutV
    rw [List.map_take, List.map_drop]
  · rw [List.length_take, List.length_drop]
    omega
/-- the signs of the drawn texts -/
def chL : List Nat := [48, 49, 50, 51, 52, 53, 54, 55, 56, 57, 45, 45, 32, 10, 47, 46, 58, 97, 98, 89, 90, 43, 95, 44]
def chC (c : Int) : Nat := chL.getD (c % 24).toNat 0
def chOf (c : Int) : Str := ⟨#[chC c]⟩
theorem chC_ok (c : Int) : chC c < 1114112 := by
  have : ∀ m : Nat, m < 24 → chL.getD m 0 < 1114112 := by decide
  exact this _ (by omega)
end LB

set_option Elab.async false
set_option linter.all false
set_option maxRecDepth 100000
set_option maxHeartbeats 4000000
/-! whole numbers as texts of digits, of any size -/
namespace LB
open PySem PySem.Spec PyProof.Rows L2
/-! ### divmod, rjust with a fill, lstrip of signs, xs[::-1] -/
@[irreducible] def rDvm : List V → Hp → VK → Prop := fun xs H Q => ∃ i j : Int, xs = [.int i, .int j] ∧ CDivP i j ∧ ∀ p, H p = none → Q (.ref p) (upd H p (.tup [.int (i / j), .int (i % j)]))
theorem call_dvm {X : Cx} : CallR X (.builtin "divmod") rDvm := fun pins s σ H xs us Q I r h => call_divmodW pins s σ H xs us Q I r (by unfold rDvm at h; exact h)
theorem dvm_go {H : Hp} {Q : VK} {i j : Int} {n : Nat} (z : Sz n i) (hn : n ≤ 4000) (hj : 0 < j) (q : ∀ p, H p = none → Q (.ref p) (upd H p (.tup [.int (i / j), .int (i % j)]))) : rDvm [.int i, .int j] H Q := by
  unfold rDvm
  exact ⟨i, j, rfl, divp_ok hj (Nat.le_trans (intBits_le z.1) (by omega)), q⟩
@[irreducible] def rRjF : V → List V → Hp → VK → Prop := fun x xs H Q => ∃ (a f : Str) (i : Int), x = .str a ∧ xs = [.int i, .str f] ∧ PadOk i = true ∧ f.length = 1 ∧ Q (.str (Txt.rjustF a i (f.cps.getD 0 0))) H
theorem mt_rjF {X : Cx} : MtR X "str.rjust" rRjF := by
  intro pins s σ H x xs v us Q I rx rs h
  unfold rRjF at h
  obtain ⟨a, f, i, rfl, rfl, hp, hf, q⟩ := h
  obtain ⟨t, rfl⟩ := rx
  cases rs with
  | cons r1 rs =>
    cases rs with
    | cons r2 rs =>
      cases rs
      obtain ⟨u, rfl⟩ := r1
      obtain ⟨z, rfl⟩ := r2
      exact rjust_fill hp hf fun t' k => ⟨.str (Txt.rjustF a i (f.cps.getD 0 0)), H, I.tok k, ⟨t', rfl⟩, q⟩
theorem rjF_go {H : Hp} {Q : VK} {a f : Str} {i : Int} (hp : PadOk i = true) (hf : f.length = 1) (q : Q (.str (Txt.rjustF a i (f.cps.getD 0 0))) H) : rRjF (.str a) [.int i, .str f] H Q := by
  unfold rRjF
  exact ⟨a, f, i, rfl, rfl, hp, hf, q⟩
@[irreducible] def rLsC : V → List V → Hp → VK → Prop := fun x xs H Q => ∃ a b, x = .str a ∧ xs = [.str b] ∧ a.length ≤ sizeLine ∧ Q (.str (Txt.lstripChars a b)) H
theorem mt_lsC {X : Cx} : MtR X "str.lstrip" rLsC := fun pins s σ H x xs v us Q I rx rs h => mt_lstripChars pins s σ H x xs v us Q I rx rs (by unfold rLsC at h; exact h)
theorem lsC_go {H : Hp} {Q : VK} {a b : Str} (hl : a.length ≤ sizeLine) (q : Q (.str (Txt.lstripChars a b)) H) : rLsC (.str a) [.str b] H Q := by
  unfold rLsC
  exact ⟨a, b, rfl, rfl, hl, q⟩
/-! ### digits -/
/-- w digits of n, the last ones -/
def dw : Nat → Nat → List Nat
  | 0, _ => []
  | w + 1, n => dw w (n / 10) ++ [48 + n % 10]
theorem dw_len : ∀ (w n : Nat), (dw w n).length = w
  | 0, _ => rfl
  | w + 1, n => by rw [dw, List.length_append, dw_len w]; rfl
theorem dw_zero : ∀ w : Nat, dw w 0 = List.replicate w 48
  | 0 => rfl
  | w + 1 => by
    show dw w (0 / 10) ++ [48 + 0 % 10] = _
    rw [show 0 / 10 = 0 from rfl, dw_zero w, List.replicate_succ']
theorem dw_add (a : Nat) : ∀ (b n : Nat), dw (a + b) n = dw a (n / 10 ^ b) ++ dw b n
  | 0, n => by rw [Nat.pow_zero, Nat.div_one, dw, List.append_nil]; rfl
  | b + 1, n => by
    show dw (a + b) (n / 10) ++ [48 + n % 10] = _
    rw [dw_add a b, dw, List.append_assoc, Nat.div_div_eq_div_mul, Nat.pow_succ, Nat.mul_comm]
theorem dw_mod : ∀ (w n : Nat), dw w (n % 10 ^ w) = dw w n
  | 0, _ => rfl
  | w + 1, n => by
    have e1 : n % 10 ^ (w + 1) / 10 = n / 10 % 10 ^ w := by
      rw [Nat.pow_succ, Nat.mul_comm, Nat.mod_mul_right_div_self]
    have e2 : n % 10 ^ (w + 1) % 10 = n % 10 := by
      rw [Nat.pow_succ, Nat.mul_comm, Nat.mod_mul_right_mod]
    rw [dw, dw, e1, e2, dw_mod w]
/-- the digits of n -/
def dg (n : Nat) : List Nat := (Nat.toDigits 10 n).map Char.toNat
theorem dg_small {n : Nat} (h : n < 10) : dg n = [48 + n] := by
  unfold dg
  rw [Nat.toDigits_of_lt_base h]
  revert n
  decide
theorem dg_big {n : Nat} (h : 10 ≤ n) : dg n = dg (n / 10) ++ [48 + n % 10] := by
  unfold dg
  rw [Nat.toDigits_of_base_le (by decide) h, List.map_append]
  congr 1
  have := Nat.mod_lt n (show 0 < 10 by decide)
  generalize n % 10 = k at this
  revert k
  decide
theorem dg_len {n w : Nat} (h : n < 10 ^ w) (hw : 0 < w) : (dg n).length ≤ w := by
  unfold dg
  rw [List.length_map]
  exact (Nat.length_toDigits_le_iff (by decide) hw).mpr h
theorem dg_pad : ∀ (w n : Nat), n < 10 ^ (w + 1) → List.replicate (w + 1 - (dg n).length) 48 ++ dg n = dw (w + 1) n
  | 0, n, h => by
    rw [dg_small (by omega), dw, dw, Nat.mod_eq_of_lt (show n < 10 by omega)]
    rfl
  | w + 1, n, h => by
    by_cases h1 : n < 10
    · rw [dg_small h1, dw, Nat.div_eq_of_lt h1, dw_zero, Nat.mod_eq_of_lt h1]
      rfl
    · have hn : n / 10 < 10 ^ (w + 1) := by
        rw [Nat.pow_succ] at h
        omega
      rw [dg_big (by omega), dw, ← dg_pad w _ hn, List.length_append, ← List.append_assoc]
      rw [show w + 1 + 1 - ((dg (n / 10)).length + [48 + n % 10].length) = w + 1 - (dg (n / 10)).length by simp only [List.length_cons, List.length_nil]; omega]
theorem dg_strip : ∀ (w n : Nat), 0 < n → n < 10 ^ w → (dw w n).dropWhile (fun c => c == 48) = dg n
  | 0, n, h0, h => by omega
  | w + 1, n, h0, h => by
    rw [dw]
    by_cases h1 : n < 10
    · rw [Nat.div_eq_of_lt h1, dw_zero, Nat.mod_eq_of_lt h1, dg_small h1]
      have : ∀ k : Nat, (List.replicate k 48 ++ [48 + n]).dropWhile (fun c => c == 48) = [48 + n] := fun k => by
        induction k with
        | zero =>
          rw [List.replicate_zero, List.nil_append, List.dropWhile_cons_of_neg]
          simp only [beq_iff_eq]
          omega
        | succ k ih =>
          rw [List.replicate_succ, List.cons_append, List.dropWhile_cons_of_pos (by rfl), ih]
      exact this w
    · have hn : n / 10 < 10 ^ w := by
        rw [Nat.pow_succ] at h
        omega
      have ih := dg_strip w (n / 10) (by omega) hn
      have hne : dg (n / 10) ≠ [] := by
        unfold dg
        intro h
        exact Nat.toDigits_ne_nil (List.map_eq_nil_iff.mp h)
      rw [List.dropWhile_append, ih, dg_big (n := n) (by omega)]
      cases e : dg (n / 10) with
      | nil => exact absurd e hne
      | cons a l => rfl

theorem dg_pos (n : Nat) : 0 < (dg n).length := by
  unfold dg
  rw [List.length_map]
  exact Nat.length_toDigits_pos
theorem tl_nat (n : Nat) : (Str.ofString (toString ((n : Nat) : Int))).cps.toList = dg n := by
  show (Str.ofString (Nat.repr n)).cps.toList = _
  rw [Str.ofString_eq_toList, Nat.toList_repr]
  rfl
theorem str_ext {a b : Str} (h : a.cps.toList = b.cps.toList) : a = b := Str.ext' (Array.toList_inj.mp h)
theorem str_neg {i : Int} (h : i < 0) : Str.ofString (toString i) = Str.ofString "-" ++ Str.ofString (toString (-i)) := by
  obtain ⟨m, rfl⟩ : ∃ m : Nat, i = Int.negSucc m := ⟨(-i - 1).toNat, by omega⟩
  refine str_ext ?_
  rw [tl_app, show -Int.negSucc m = ((m + 1 : Nat) : Int) from rfl, tl_nat]
  show (Str.ofString ("-" ++ Nat.repr (m + 1))).cps.toList = _
  rw [Str.ofString_eq_toList, String.toList_append, Nat.toList_repr, List.map_append]
  rfl
theorem str_le {i : Int} (h : 0 ≤ i) (z : Sz 1900 i) : (Str.ofString (toString i)).length ≤ 600 := by
  obtain ⟨n, rfl⟩ : ∃ n : Nat, i = n := ⟨i.toNat, by omega⟩
  have hn : n < 10 ^ 600 := Nat.lt_of_lt_of_le (show n < 2 ^ 1900 from z.1) (by decide +kernel)
  have e := congrArg List.length (tl_nat n)
  have := dg_len hn (by decide)
  rw [← e] at this
  exact this
theorem emp_app (x : Str) : Str.empty ++ x = x := str_ext (by rw [tl_app]; rfl)
theorem str_len1 {i : Int} (z : Sz 1900 i) : (Str.ofString (toString i)).length ≤ 601 := by
  by_cases h : 0 ≤ i
  · exact Nat.le_succ_of_le (str_le h z)
  · rw [str_neg (by omega), len_app]
    have := str_le (i := -i) (by omega) z.neg
    have e : (Str.ofString "-").length = 1 := rfl
    omega
/-- a chunk of w digits -/
theorem pad_tl {n w : Nat} (h : n < 10 ^ (w + 1)) : (Txt.rjustF (Str.ofString (toString ((n : Nat) : Int))) ((w + 1 : Nat) : Int) 48).cps.toList = dw (w + 1) n := by
  have e := tl_nat n
  have hl : (Str.ofString (toString ((n : Nat) : Int))).length = (dg n).length := by rw [← e]; rfl
  have hle := dg_len h (by omega)
  rw [← dg_pad w n h]
  unfold Txt.rjustF
  by_cases c : ((w + 1 : Nat) : Int) ≤ (Str.ofString (toString ((n : Nat) : Int))).length
  · rw [if_pos c, e, show w + 1 - (dg n).length = 0 by omega]
    rfl
  · rw [if_neg c]
    show (Array.replicate _ 48 ++ (Str.ofString (toString ((n : Nat) : Int))).cps ++ Array.replicate 0 48).toList = _
    rw [Array.toList_append, Array.toList_append, Array.toList_replicate, e, hl, Int.toNat_natCast]
    exact List.append_nil _
theorem lstrip_tl {x y : Str} : (Txt.lstripChars x y).cps.toList = x.cps.toList.dropWhile y.cps.contains := by
  unfold Txt.lstripChars
  rw [stripBy_eq]
  show (x.cps.extract (x.cps.toList.takeWhile y.cps.contains).length x.length).toList = _
  rw [Array.toList_extract]
  show ((x.cps.toList.drop _).take _) = _
  have : ∀ l : List Nat, (l.drop (l.takeWhile y.cps.contains).length).take (l.length - (l.takeWhile y.cps.contains).length) = l.dropWhile y.cps.contains := fun l => by
    rw [List.take_of_length_le (by rw [List.length_drop]; exact Nat.le_refl _)]
    induction l with
    | nil => rfl
    | cons a l ih =>
      by_cases c : y.cps.contains a = true
      · rw [List.takeWhile_cons_of_pos c, List.dropWhile_cons_of_pos c, List.length_cons, List.drop_succ_cons, ih]
      · rw [List.takeWhile_cons_of_neg c, List.dropWhile_cons_of_neg c]
        rfl
  exact this x.cps.toList
/-- the chunks of n, the last ones first -/
def chk (n : Nat) : Nat → List Str
  | 0 => []
  | k + 1 => chk n k ++ [Txt.rjustF (Str.ofString (toString ((n / (10 ^ 18) ^ k % 10 ^ 18 : Nat) : Int))) ((18 : Nat) : Int) 48]
theorem chk_tl (n : Nat) : ∀ k, (chk n k).reverse.flatMap (fun y => y.cps.toList) = dw (18 * k) n
  | 0 => rfl
  | k + 1 => by
    have h : n / (10 ^ 18) ^ k % 10 ^ 18 < 10 ^ (17 + 1) := Nat.mod_lt _ (by decide)
    rw [chk, List.reverse_append, List.flatMap_append, chk_tl n k]
    show (Txt.rjustF _ _ 48).cps.toList ++ [] ++ dw (18 * k) n = _
    rw [List.append_nil, pad_tl h, show (17 + 1 : Nat) = 18 from rfl, dw_mod, show 18 * (k + 1) = 18 + 18 * k by omega, dw_add, Nat.pow_mul]
theorem chk_len (n : Nat) : ∀ k, (chk n k).length = k
  | 0 => rfl
  | k + 1 => by rw [chk, List.length_append, chk_len n k]; rfl
theorem chk_each (n : Nat) : ∀ k, ∀ y ∈ chk n k, y.length = 18
  | 0, y, h => nomatch h
  | k + 1, y, h => by
    rw [chk, List.mem_append] at h
    rcases h with h | h
    · exact chk_each n k y h
    · rw [List.mem_singleton] at h
      have hh : n / (10 ^ 18) ^ k % 10 ^ 18 < 10 ^ (17 + 1) := Nat.mod_lt _ (by decide)
      have e := congrArg List.length (pad_tl hh)
      rw [dw_len] at e
      rw [h]
      exact e
theorem sum18 : ∀ l : List Str, (∀ y ∈ l, y.length = 18) → (l.map (·.length)).sum = 18 * l.length
  | [], _ => rfl
  | a :: l, h => by
    rw [List.map_cons, List.sum_cons, sum18 l fun y hy => h y (.tail _ hy), h a (.head _), List.length_cons]
    omega
/-- what show_integer's loop leaves -/
theorem chk_str {n k : Nat} (h0 : 0 < n) (h : n < (10 ^ 18) ^ k) : Txt.lstripChars (Txt.join Str.empty (chk n k).reverse) (Str.ofString "0") = Str.ofString (toString ((n : Nat) : Int)) := by
  refine str_ext ?_
  rw [lstrip_tl, tl_join0, chk_tl, tl_nat, ← dg_strip (18 * k) n h0 (by rw [Nat.pow_mul]; exact h)]
  congr 1
  funext c
  show (Str.ofString "0").cps.contains c = (c == 48)
  have : (Str.ofString "0").cps = #[48] := by decide +kernel
  rw [this]
  by_cases e : c = 48
  · subst e; simp
  · have : (c == 48) = false := beq_false_of_ne e
    rw [this]
    simp [e]
end LB

set_option Elab.async false
set_option linter.all false
set_option maxRecDepth 100000
set_option maxHeartbeats 4000000
/-! ratios in lowest terms: the plain side -/
namespace LB
open PySem PySem.Spec PyProof.Rows L2
/-- t by b in lowest terms -/
def low (t b : Int) : Int × Int := if b < 0 then (-t / (Nat.gcd t.natAbs b.natAbs : Nat), -b / (Nat.gcd t.natAbs b.natAbs : Nat)) else (t / (Nat.gcd t.natAbs b.natAbs : Nat), b / (Nat.gcd t.natAbs b.natAbs : Nat))
theorem low_pos {t b : Int} (h : b ≠ 0) : 0 < (low t b).2 := by
  have g0 : 0 < Nat.gcd t.natAbs b.natAbs := Nat.gcd_pos_of_pos_right _ (by omega)
  have dv : (Nat.gcd t.natAbs b.natAbs : Int) ∣ b := Int.ofNat_dvd_left.mpr (Nat.gcd_dvd_right _ _)
  unfold low
  by_cases c : b < 0
  · rw [if_pos c]
    exact Int.ediv_pos_of_pos_of_dvd (by omega) (by omega) (Int.dvd_neg.mpr dv)
  · rw [if_neg c]
    exact Int.ediv_pos_of_pos_of_dvd (by omega) (by omega) dv
theorem low_sz1 {t b : Int} {n : Nat} (h : Sz n t) : Sz n (low t b).1 := by
  unfold low
  split
  · exact h.neg.div
  · exact h.div
theorem low_sz2 {t b : Int} {n : Nat} (h : Sz n b) : Sz n (low t b).2 := by
  unfold low
  split
  · exact h.neg.div
  · exact h.div
/-- without a common factor, and cross-multiplied equal -/
theorem low_is {t b : Int} (h : b ≠ 0) : Nat.gcd (low t b).1.natAbs (low t b).2.natAbs = 1 ∧ (low t b).1 * b = t * (low t b).2 := by
  have g0 : 0 < Nat.gcd t.natAbs b.natAbs := Nat.gcd_pos_of_pos_right _ (by omega)
  have d1 : (Nat.gcd t.natAbs b.natAbs : Int) ∣ t := Int.ofNat_dvd_left.mpr (Nat.gcd_dvd_left _ _)
  have d2 : (Nat.gcd t.natAbs b.natAbs : Int) ∣ b := Int.ofNat_dvd_left.mpr (Nat.gcd_dvd_right _ _)
  generalize hg : Nat.gcd t.natAbs b.natAbs = g at *
  obtain ⟨t1, rfl⟩ := d1
  obtain ⟨b1, rfl⟩ := d2
  have gne : (g : Int) ≠ 0 := by omega
  have e1 : (g : Int) * t1 / (g : Int) = t1 := Int.mul_ediv_cancel_left _ gne
  have e2 : (g : Int) * b1 / (g : Int) = b1 := Int.mul_ediv_cancel_left _ gne
  have e3 : -((g : Int) * t1) / (g : Int) = -t1 := by rw [← Int.mul_neg, Int.mul_ediv_cancel_left _ gne]
  have e4 : -((g : Int) * b1) / (g : Int) = -b1 := by rw [← Int.mul_neg, Int.mul_ediv_cancel_left _ gne]
  have cop : Nat.gcd t1.natAbs b1.natAbs = 1 := by
    rw [Int.natAbs_mul, Int.natAbs_mul, Int.natAbs_natCast, Nat.gcd_mul_left] at hg
    exact Nat.eq_of_mul_eq_mul_left g0 (by omega)
  unfold low
  rw [show Nat.gcd ((g : Int) * t1).natAbs ((g : Int) * b1).natAbs = g from hg]
  by_cases c : (g : Int) * b1 < 0
  · rw [if_pos c, e3, e4]
    refine ⟨by rw [Int.natAbs_neg, Int.natAbs_neg]; exact cop, ?_⟩
    show -t1 * ((g : Int) * b1) = (g : Int) * t1 * -b1
    rw [Int.neg_mul, Int.mul_neg]
    congr 1
    rw [← Int.mul_assoc, Int.mul_comm t1]
  · rw [if_neg c, e1, e2]
    refine ⟨cop, ?_⟩
    show t1 * ((g : Int) * b1) = (g : Int) * t1 * b1
    rw [← Int.mul_assoc, Int.mul_comm t1]
theorem low_uniq {u v u' v' : Int} (c : Nat.gcd u.natAbs v.natAbs = 1) (c' : Nat.gcd u'.natAbs v'.natAbs = 1) (p : 0 < v) (p' : 0 < v') (h : u * v' = u' * v) : u = u' ∧ v = v' := by
  have e : u.natAbs * v'.natAbs = u'.natAbs * v.natAbs := by rw [← Int.natAbs_mul, ← Int.natAbs_mul, h]
  have d1 : v.natAbs ∣ v'.natAbs := by
    have : v.natAbs ∣ u.natAbs * v'.natAbs := ⟨u'.natAbs, by rw [e, Nat.mul_comm]⟩
    exact Nat.Coprime.dvd_of_dvd_mul_left (show Nat.Coprime v.natAbs u.natAbs by rw [Nat.Coprime, Nat.gcd_comm]; exact c) this
  have d2 : v'.natAbs ∣ v.natAbs := by
    have : v'.natAbs ∣ u'.natAbs * v.natAbs := ⟨u.natAbs, by rw [← e, Nat.mul_comm]⟩
    exact Nat.Coprime.dvd_of_dvd_mul_left (show Nat.Coprime v'.natAbs u'.natAbs by rw [Nat.Coprime, Nat.gcd_comm]; exact c') this
  have ev : v = v' := by
    have := Nat.dvd_antisymm d1 d2
    omega
  subst ev
  exact ⟨Int.eq_of_mul_eq_mul_right (by omega) h, rfl⟩
/-- equal ratios have the same lowest terms -/
theorem low_eq {t b t' b' : Int} (h0 : b ≠ 0) (h1 : b' ≠ 0) (h : t * b' = t' * b) : low t b = low t' b' := by
  obtain ⟨c, e⟩ := low_is (t := t) h0
  obtain ⟨c', e'⟩ := low_is (t := t') h1
  have p := low_pos (t := t) h0
  have p' := low_pos (t := t') h1
  generalize low t b = x at *
  generalize low t' b' = y at *
  obtain ⟨u, v⟩ := x
  obtain ⟨u', v'⟩ := y
  simp only at c e c' e' p p'
  -- u * b = t * v, u' * b' = t' * v'
  have k : u * v' = u' * v := by
    have m1 : u * b * (b' * v') = t * v * (b' * v') := by rw [e]
    have m2 : u' * b' * (b * v) = t' * v' * (b * v) := by rw [e']
    have m3 : t * v * (b' * v') = t' * v' * (b * v) := by
      have : t * v * (b' * v') = t * b' * (v * v') := by
        rw [Int.mul_assoc, Int.mul_assoc]; congr 1; rw [← Int.mul_assoc, ← Int.mul_assoc, Int.mul_comm v]
      rw [this, h]
      rw [Int.mul_assoc, Int.mul_assoc]; congr 1
      rw [← Int.mul_assoc, ← Int.mul_assoc, Int.mul_comm b v, Int.mul_assoc, Int.mul_comm b v', ← Int.mul_assoc, Int.mul_comm v v', Int.mul_assoc, Int.mul_comm v b, ← Int.mul_assoc]
    have m4 : u * v' * (b * b') = u' * v * (b * b') := by
      have a1 : u * v' * (b * b') = u * b * (b' * v') := by
        rw [Int.mul_assoc, Int.mul_assoc]; congr 1
        rw [← Int.mul_assoc, Int.mul_comm v' b, Int.mul_assoc, Int.mul_comm v' b']
      have a2 : u' * v * (b * b') = u' * b' * (b * v) := by
        rw [Int.mul_assoc, Int.mul_assoc]; congr 1
        rw [Int.mul_comm b b', ← Int.mul_assoc, Int.mul_comm v b', Int.mul_assoc, Int.mul_comm v b]
      rw [a1, a2, m1, m2, m3]
    exact Int.eq_of_mul_eq_mul_right (Int.mul_ne_zero h0 h1) m4
  obtain ⟨rfl, rfl⟩ := low_uniq c c' p p' k
  rfl
theorem low_low {t b : Int} (h : b ≠ 0) : low (low t b).1 (low t b).2 = low t b := by
  obtain ⟨_, e⟩ := low_is (t := t) h
  have p := low_pos (t := t) h
  exact low_eq (by omega) h e
/-- the sum of two ratios with one bottom -/
theorem low_add {t s b : Int} (h : b ≠ 0) : low ((low t b).1 * (low s b).2 + (low s b).1 * (low t b).2) ((low t b).2 * (low s b).2) = low (t + s) b := by
  obtain ⟨_, e⟩ := low_is (t := t) h
  obtain ⟨_, e'⟩ := low_is (t := s) h
  have p := low_pos (t := t) h
  have p' := low_pos (t := s) h
  generalize low t b = x at *
  generalize low s b = y at *
  obtain ⟨u, v⟩ := x
  obtain ⟨u', v'⟩ := y
  simp only at e e' p p' ⊢
  refine low_eq (Int.mul_ne_zero (by omega) (by omega)) h ?_
  rw [Int.add_mul, Int.add_mul]
  have a1 : u * v' * b = t * (v * v') := by rw [Int.mul_assoc, Int.mul_comm v' b, ← Int.mul_assoc, e, Int.mul_assoc]
  have a2 : u' * v * b = s * (v * v') := by rw [Int.mul_assoc, Int.mul_comm v b, ← Int.mul_assoc, e', Int.mul_assoc, Int.mul_comm v' v]
  rw [a1, a2]
theorem low_sub {t s b : Int} (h : b ≠ 0) : low ((low t b).1 * (low s b).2 - (low s b).1 * (low t b).2) ((low t b).2 * (low s b).2) = low (t - s) b := by
  obtain ⟨_, e⟩ := low_is (t := t) h
  obtain ⟨_, e'⟩ := low_is (t := s) h
  have p := low_pos (t := t) h
  have p' := low_pos (t := s) h
  generalize low t b = x at *
  generalize low s b = y at *
  obtain ⟨u, v⟩ := x
  obtain ⟨u', v'⟩ := y
  simp only at e e' p p' ⊢
  refine low_eq (Int.mul_ne_zero (by omega) (by omega)) h ?_
  rw [Int.sub_mul, Int.sub_mul]
  have a1 : u * v' * b = t * (v * v') := by rw [Int.mul_assoc, Int.mul_comm v' b, ← Int.mul_assoc, e, Int.mul_assoc]
  have a2 : u' * v * b = s * (v * v') := by rw [Int.mul_assoc, Int.mul_comm v b, ← Int.mul_assoc, e', Int.mul_assoc, Int.mul_comm v' v]
  rw [a1, a2]
theorem low_whole (c : Int) {b : Int} (h : b ≠ 0) : low c 1 = low (c * b) b := low_eq (by decide) h (by rw [Int.mul_one])
structure PairAt (K : PySem.W.Frag) (H : Hp) (p : Addr) (u v : Int) : Prop where
  at_ : SqT K H p [.int u, .int v]
  pos : 0 < v
  s1 : Sz 210 u
  s2 : Sz 210 v
theorem PairAt.same {K : PySem.W.Frag} {H H' : Hp} {p : Addr} {u v : Int} (h : PairAt K H p u v) (s : Same H H') : PairAt K H' p u v := ⟨same_tup s h.at_, h.pos, h.s1, h.s2⟩
theorem low_pair {K : PySem.W.Frag} {H : Hp} {p : Addr} {t b : Int} (h : H p = some (.tup [.int (low t b).1, .int (low t b).2])) (b0 : b ≠ 0) (h1 : Sz 210 t) (h2 : Sz 210 b) : PairAt K H p (low t b).1 (low t b).2 :=
  ⟨t_of h, low_pos b0, low_sz1 h1, low_sz2 h2⟩
theorem Sz.add1 {n : Nat} {i j : Int} (a : Sz n i) (b : Sz n j) : Sz (n + 1) (i + j) := by
  have h1 := a.lt
  have h2 := b.lt
  have h3 := Int.natAbs_add_le i j
  refine ⟨?_⟩
  rw [Nat.pow_succ]
  omega
theorem low_zero {b : Int} (h : b ≠ 0) : low 0 b = (0, 1) := by
  rw [low_eq (t' := 0) (b' := 1) h (by decide) (by simp)]
  rfl
end LB

namespace My
open PySem PySem.Spec PyProof.Rows L2 LB
local macro_rules | `(tactic| walk_at "sz") => `(tactic| first
  | assumption
  | ((with_reducible apply Sz.mul) <;> walk_at "sz") | ((with_reducible apply Sz.add) <;> walk_at "sz") | ((with_reducible apply Sz.sub) <;> walk_at "sz") | ((with_reducible apply Sz.neg) <;> walk_at "sz")
  | exact Sz.mk (n := 64) (by omega) | exact Sz.mk (n := 201) (by omega) | ((with_reducible apply Sz.div) <;> walk_at "sz") | (with_reducible exact cell_sz (by assumption) _))
local macro_rules | `(tactic| walk_at "cond") => `(tactic| first
  | ((show (0 : Int) < _); first | decide | omega)
  | assumption
  | exact (True.intro : any1 _)
  | exact ty_s
  | ((with_reducible apply ty_l); (walk_at "sq")) | ((with_reducible apply ty_d); (walk_at "hp"))
  | ((with_reducible apply CM.of2) <;> first | walk_at "sz" | decide)
  | ((with_reducible apply CD.of2) <;> first | walk_at "sz" | decide | omega)
  | (with_reducible exact ⟨by decide, by decide, by decide⟩))
local macro_rules | `(tactic| walk_at "len") => `(tactic| first | assumption | exact Nat.lt_of_succ_le (Nat.le_of_ble_eq_true (by rfl)))
local macro_rules | `(tactic| walk_at "hp") => `(tactic| first | assumption | exact upd_same | ((with_reducible apply hp_upd) <;> (walk_at "hp")))
local macro_rules | `(tactic| walk_at "sq0") => `(tactic| first | assumption | exact l_of upd_same | exact t_of upd_same | (apply l_of; (assumption)) | (apply t_of; (assumption)) | walk_at "sqc")
local macro_rules | `(tactic| walk_at "sq1") => `(tactic| first | walk_at "sq0" | (apply lst_upd; (assumption); (walk_at "sq0")) | (apply tup_upd; (assumption); (walk_at "sq0")))
local macro_rules | `(tactic| walk_at "sq2") => `(tactic| first | walk_at "sq0" | (apply lst_upd; (assumption); (walk_at "sq1")) | (apply tup_upd; (assumption); (walk_at "sq1")))
local macro_rules | `(tactic| walk_at "sq3") => `(tactic| first | walk_at "sq0" | (apply lst_upd; (assumption); (walk_at "sq2")) | (apply tup_upd; (assumption); (walk_at "sq2")))
local macro_rules | `(tactic| walk_at "sq4") => `(tactic| first | walk_at "sq0" | (apply lst_upd; (assumption); (walk_at "sq3")) | (apply tup_upd; (assumption); (walk_at "sq3")))
local macro_rules | `(tactic| walk_at "sq5") => `(tactic| first | walk_at "sq0" | (apply lst_upd; (assumption); (walk_at "sq4")) | (apply tup_upd; (assumption); (walk_at "sq4")))
local macro_rules | `(tactic| walk_at "sq6") => `(tactic| first | walk_at "sq0" | (apply lst_upd; (assumption); (walk_at "sq5")) | (apply tup_upd; (assumption); (walk_at "sq5")))
local macro_rules | `(tactic| walk_at "sq7") => `(tactic| first | walk_at "sq0" | (apply lst_upd; (assumption); (walk_at "sq6")) | (apply tup_upd; (assumption); (walk_at "sq6")))
local macro_rules | `(tactic| walk_at "sq8") => `(tactic| first | walk_at "sq0" | (apply lst_upd; (assumption); (walk_at "sq7")) | (apply tup_upd; (assumption); (walk_at "sq7")))
local macro_rules | `(tactic| walk_at "sq") => `(tactic| walk_at "sq8")
local macro_rules | `(tactic| walk_at "rd1") => `(tactic| first
  | refine ⟨_, rfl, ?_⟩
  | refine ⟨_, _, rfl, rfl, ?_⟩
  | refine ⟨rfl, ?_⟩
  | refine .inl ⟨_, rfl, ?_⟩
  | refine .inr ⟨_, rfl, ?_⟩
  | (with_reducible refine tC_go ?_) | (with_reducible refine tNoPart_go ?_)
  | walk_at "call"
  | (apply ixT_go; (walk_at "sq"); (first | assumption | rfl))
  | (apply ixL_go; (walk_at "sq"); (first | assumption | rfl))
  | (apply ixUT_go; (walk_at "sq"); (first | assumption | rfl))
  | (apply ixUL_go; (walk_at "sq"); (first | assumption | rfl))
  | (apply And.intro; (walk_at "cond"))
  | (apply And.intro; (exact Nat.le_of_ble_eq_true (by rfl)); (intro p hp))
  | refine ⟨_, _, _, rfl, (by walk_at "hp"), (by rfl), ?_⟩
  | ((with_reducible apply gTup_go); (walk_at "sq"); (exact rfl))
  | (apply ct_go; (walk_at "hp"); (walk_at "hp"); (first | assumption | exact Nat.le_of_ble_eq_true (by rfl)); (intro p hp))
  | (apply lo_l; (walk_at "sq"); (intro p hp)) | (apply lo_t; (walk_at "sq"); (intro p hp))
  | (apply mn_go) | (apply mx_go) | (apply isB_go) | (apply notB_go)
  | (apply setL_go; (walk_at "hp"); (first | assumption | exact rfl))
  | ((with_reducible apply slL_go); (walk_at "sq"); (intro p hp))
  | (apply inT_go; (walk_at "sq"); (exact rfl); (first | assumption | exact rfl)) | (apply inL_go; (walk_at "sq"); (exact rfl); (first | assumption | exact rfl))
  | (apply niT_go; (walk_at "sq"); (exact rfl); (first | assumption | exact rfl)) | (apply niL_go; (walk_at "sq"); (exact rfl); (first | assumption | exact rfl))
  | (apply app_go; (walk_at "hp"); (walk_at "len"))
  | (apply ln_t; (walk_at "sq")) | (apply ln_l; (walk_at "sq"))
  | (apply iteLen; (with_reducible rfl)) | (apply iteLenN; (with_reducible rfl)) | (apply iteLen; (exact rfl)) | (apply iteLenN; (exact rfl))
  | refine iteT ?_
  | refine iteF ?_
  | (apply isi_go (r := true); (first | exact .base (.int _) | exact .base (.str _) | exact .base (.bl _) | exact .base .non | exact tyx_t (by walk_at "sq") | exact tyx_l (by walk_at "sq")); (decide +kernel))
  | (apply isi_go (r := false); (first | exact .base (.int _) | exact .base (.str _) | exact .base (.bl _) | exact .base .non | exact tyx_t (by walk_at "sq") | exact tyx_l (by walk_at "sq")); (decide +kernel))
  | (apply isX_go; (walk_at "kit"); (walk_at "hp")) | (apply isX_ve; (walk_at "exv"); (walk_at "hp"))
  | (apply gTup_go; (walk_at "sq"); (exact rfl)) | (apply gCons_go) | (apply gNil_go))
local macro_rules | `(tactic| walk_at "rd") => `(tactic| repeat (walk_at "rd1"))

local macro_rules | `(tactic| walk_at "br1") => `(tactic| first
  | refine iteI (fun h => ?_) (fun h => ?_) | refine iteIN (fun h => ?_) (fun h => ?_)
  | refine iteS (fun h => ?_) (fun h => ?_) | refine iteSN (fun h => ?_) (fun h => ?_)
  | refine iteD (fun h => ?_) (fun h => ?_) | refine iteDN (fun h => ?_) (fun h => ?_))
local macro_rules | `(tactic| walk_at "go") => `(tactic| repeat' (first | walk_at "rd1" | walk_at "br1"))
local macro_rules | `(tactic| walk_at "sm0") => `(tactic| first | exact Same.refl _ | assumption)
local macro_rules | `(tactic| walk_at "sm1") => `(tactic| first | walk_at "sm0" | (apply same_new; (walk_at "sm0"); (assumption)) | (refine Same.trans ?_ (by assumption); (walk_at "sm0")))
local macro_rules | `(tactic| walk_at "sm2") => `(tactic| first | walk_at "sm0" | (apply same_new; (walk_at "sm1"); (assumption)) | (refine Same.trans ?_ (by assumption); (walk_at "sm1")))
local macro_rules | `(tactic| walk_at "sm3") => `(tactic| first | walk_at "sm0" | (apply same_new; (walk_at "sm2"); (assumption)) | (refine Same.trans ?_ (by assumption); (walk_at "sm2")))
local macro_rules | `(tactic| walk_at "sm4") => `(tactic| first | walk_at "sm0" | (apply same_new; (walk_at "sm3"); (assumption)) | (refine Same.trans ?_ (by assumption); (walk_at "sm3")))
local macro_rules | `(tactic| walk_at "sm5") => `(tactic| first | walk_at "sm0" | (apply same_new; (walk_at "sm4"); (assumption)) | (refine Same.trans ?_ (by assumption); (walk_at "sm4")))
local macro_rules | `(tactic| walk_at "sm6") => `(tactic| first | walk_at "sm0" | (apply same_new; (walk_at "sm5"); (assumption)) | (refine Same.trans ?_ (by assumption); (walk_at "sm5")))
local macro_rules | `(tactic| walk_at "sm7") => `(tactic| first | walk_at "sm0" | (apply same_new; (walk_at "sm6"); (assumption)) | (refine Same.trans ?_ (by assumption); (walk_at "sm6")))
local macro_rules | `(tactic| walk_at "sm8") => `(tactic| first | walk_at "sm0" | (apply same_new; (walk_at "sm7"); (assumption)) | (refine Same.trans ?_ (by assumption); (walk_at "sm7")))
local macro_rules | `(tactic| walk_at "sm9") => `(tactic| first | walk_at "sm0" | (apply same_new; (walk_at "sm8"); (assumption)) | (refine Same.trans ?_ (by assumption); (walk_at "sm8")))
local macro_rules | `(tactic| walk_at "sm10") => `(tactic| first | walk_at "sm0" | (apply same_new; (walk_at "sm9"); (assumption)) | (refine Same.trans ?_ (by assumption); (walk_at "sm9")))
local macro_rules | `(tactic| walk_at "sm11") => `(tactic| first | walk_at "sm0" | (apply same_new; (walk_at "sm10"); (assumption)) | (refine Same.trans ?_ (by assumption); (walk_at "sm10")))
local macro_rules | `(tactic| walk_at "sm12") => `(tactic| first | walk_at "sm0" | (apply same_new; (walk_at "sm11"); (assumption)) | (refine Same.trans ?_ (by assumption); (walk_at "sm11")))
local macro_rules | `(tactic| walk_at "sm13") => `(tactic| first | walk_at "sm0" | (apply same_new; (walk_at "sm12"); (assumption)) | (refine Same.trans ?_ (by assumption); (walk_at "sm12")))
local macro_rules | `(tactic| walk_at "sm14") => `(tactic| first | walk_at "sm0" | (apply same_new; (walk_at "sm13"); (assumption)) | (refine Same.trans ?_ (by assumption); (walk_at "sm13")))
local macro_rules | `(tactic| walk_at "sm") => `(tactic| walk_at "sm14")

local macro_rules | `(tactic| walk_at "rx") => `(tactic| (dsimp only [tC]; walk_at "rd"))

abbrev P : Program := PySem.Challenge.pw_lendbook_k04_ratios_in_lowest_terms
def top (i : Nat) : Stmt := PySem.Challenge.pw_lendbook_k04_ratios_in_lowest_terms.main.body.getD i (.Pass ⟨0, 0, 0, 0⟩)
abbrev s_show_integer : Stmt := top 4
abbrev s_ratio : Stmt := top 9
abbrev s_show_ratio : Stmt := top 10
abbrev s__law_cell : Stmt := top 12
abbrev s__law_wide : Stmt := top 13
abbrev s__law_whole : Stmt := top 14
abbrev s__law_gcd : Stmt := top 15
abbrev s__law_lowest : Stmt := top 16
abbrev s__law_refused : Stmt := top 17
abbrev s_law : Stmt := top 18
theorem sc_show_integer : FnScope ["value", "parts", "rest"] ["value"] (defScope s_show_integer) := ⟨rfl, rfl, rfl, by decide +kernel, rfl, by decide +kernel, by decide +kernel⟩
theorem sc_ratio : FnScope ["top", "bottom", "common"] ["top", "bottom"] (defScope s_ratio) := ⟨rfl, rfl, rfl, by decide +kernel, rfl, by decide +kernel, by decide +kernel⟩
theorem sc_show_ratio : FnScope ["a"] ["a"] (defScope s_show_ratio) := ⟨rfl, rfl, rfl, by decide +kernel, rfl, by decide +kernel, by decide +kernel⟩
theorem sc__law_cell : FnScope ["script", "k"] ["script", "k"] (defScope s__law_cell) := ⟨rfl, rfl, rfl, by decide +kernel, rfl, by decide +kernel, by decide +kernel⟩
theorem sc__law_wide : FnScope ["script", "k"] ["script", "k"] (defScope s__law_wide) := ⟨rfl, rfl, rfl, by decide +kernel, rfl, by decide +kernel, by decide +kernel⟩
theorem sc__law_whole : FnScope ["x"] ["x"] (defScope s__law_whole) := ⟨rfl, rfl, rfl, by decide +kernel, rfl, by decide +kernel, by decide +kernel⟩
theorem sc__law_gcd : FnScope ["a", "b", "k", "rest"] ["a", "b"] (defScope s__law_gcd) := ⟨rfl, rfl, rfl, by decide +kernel, rfl, by decide +kernel, by decide +kernel⟩
theorem sc__law_lowest : FnScope ["top", "bottom", "common"] ["top", "bottom"] (defScope s__law_lowest) := ⟨rfl, rfl, rfl, by decide +kernel, rfl, by decide +kernel, by decide +kernel⟩
theorem sc__law_refused : FnScope ["top", "e"] ["top"] (defScope s__law_refused) := ⟨rfl, rfl, rfl, by decide +kernel, rfl, by decide +kernel, by decide +kernel⟩
theorem sc_law : FnScope ["script", "top", "bottom", "actual", "due", "written", "plain", "refused"] ["script"] (defScope s_law) := ⟨rfl, rfl, rfl, by decide +kernel, rfl, by decide +kernel, by decide +kernel⟩
abbrev s_OutOfRange : Stmt := inClass (top 7) 0
structure Txt (K : PySem.W.Frag) (mg : Str → Option Value) : Type where
  a_show_integer : Addr
  fd_show_integer : FuncData
  F_show_integer : FunD K "show_integer" "show_integer" (defArgs s_show_integer) (defBody s_show_integer) (defScope s_show_integer) [] [] a_show_integer fd_show_integer
  m_show_integer : mg "show_integer" = some (.ref a_show_integer)
  b_show_integer : Binds K fd_show_integer ["value"] []
  a_ratio : Addr
  fd_ratio : FuncData
  F_ratio : FunD K "ratio" "ratio" (defArgs s_ratio) (defBody s_ratio) (defScope s_ratio) [.int 1] [] a_ratio fd_ratio
  m_ratio : mg "ratio" = some (.ref a_ratio)
  b1_ratio : ∃ ds, Vals ([.int 1] : List V) ds ∧ Binds K fd_ratio ["top", "bottom"] ds
  b2_ratio : ∃ ds, Vals ([] : List V) ds ∧ Binds K fd_ratio ["top", "bottom"] ds
  a_show_ratio : Addr
  fd_show_ratio : FuncData
  F_show_ratio : FunD K "show_ratio" "show_ratio" (defArgs s_show_ratio) (defBody s_show_ratio) (defScope s_show_ratio) [] [] a_show_ratio fd_show_ratio
  m_show_ratio : mg "show_ratio" = some (.ref a_show_ratio)
  b_show_ratio : Binds K fd_show_ratio ["a"] []
  a__law_cell : Addr
  fd__law_cell : FuncData
  F__law_cell : FunD K "_law_cell" "_law_cell" (defArgs s__law_cell) (defBody s__law_cell) (defScope s__law_cell) [] [] a__law_cell fd__law_cell
  m__law_cell : mg "_law_cell" = some (.ref a__law_cell)
  b__law_cell : Binds K fd__law_cell ["script", "k"] []
  a__law_wide : Addr
  fd__law_wide : FuncData
  F__law_wide : FunD K "_law_wide" "_law_wide" (defArgs s__law_wide) (defBody s__law_wide) (defScope s__law_wide) [] [] a__law_wide fd__law_wide
  m__law_wide : mg "_law_wide" = some (.ref a__law_wide)
  b__law_wide : Binds K fd__law_wide ["script", "k"] []
  a__law_whole : Addr
  fd__law_whole : FuncData
  F__law_whole : FunD K "_law_whole" "_law_whole" (defArgs s__law_whole) (defBody s__law_whole) (defScope s__law_whole) [] [] a__law_whole fd__law_whole
  m__law_whole : mg "_law_whole" = some (.ref a__law_whole)
  b__law_whole : Binds K fd__law_whole ["x"] []
  a__law_gcd : Addr
  fd__law_gcd : FuncData
  F__law_gcd : FunD K "_law_gcd" "_law_gcd" (defArgs s__law_gcd) (defBody s__law_gcd) (defScope s__law_gcd) [] [] a__law_gcd fd__law_gcd
  m__law_gcd : mg "_law_gcd" = some (.ref a__law_gcd)
  b__law_gcd : Binds K fd__law_gcd ["a", "b"] []
  a__law_lowest : Addr
  fd__law_lowest : FuncData
  F__law_lowest : FunD K "_law_lowest" "_law_lowest" (defArgs s__law_lowest) (defBody s__law_lowest) (defScope s__law_lowest) [] [] a__law_lowest fd__law_lowest
  m__law_lowest : mg "_law_lowest" = some (.ref a__law_lowest)
  b__law_lowest : Binds K fd__law_lowest ["top", "bottom"] []
  a__law_refused : Addr
  fd__law_refused : FuncData
  F__law_refused : FunD K "_law_refused" "_law_refused" (defArgs s__law_refused) (defBody s__law_refused) (defScope s__law_refused) [] [] a__law_refused fd__law_refused
  m__law_refused : mg "_law_refused" = some (.ref a__law_refused)
  b__law_refused : Binds K fd__law_refused ["top"] []
  a_law : Addr
  fd_law : FuncData
  F_law : FunD K "law" "law" (defArgs s_law) (defBody s_law) (defScope s_law) [] [] a_law fd_law
  m_law : mg "law" = some (.ref a_law)
  b_law : Binds K fd_law ["script"] []
  c_BookError : Addr
  m_BookError : mg "BookError" = some (.ref c_BookError)
  e_BookError : ECls K c_BookError
  c_OutOfRange : Addr
  m_OutOfRange : mg "OutOfRange" = some (.ref c_OutOfRange)
  e_OutOfRange : ECls K c_OutOfRange
  x_OutOfRange : XTxt P K mg "OutOfRange.__init__" s_OutOfRange c_OutOfRange
  n_OutOfRange_label : PySem.W.findIn K (.ref c_OutOfRange) "label" = some none
  n_OutOfRange_value : PySem.W.findIn K (.ref c_OutOfRange) "value" = some none
  y_BookError_BookError : PySem.W.subIn K (.ref c_BookError) (.ref c_BookError) = some true
  y_BookError_OutOfRange : PySem.W.subIn K (.ref c_BookError) (.ref c_OutOfRange) = some false
  yv_BookError : PySem.W.subIn K (.ref c_BookError) (.type "ValueError") = some true
  y_OutOfRange_BookError : PySem.W.subIn K (.ref c_OutOfRange) (.ref c_BookError) = some true
  y_OutOfRange_OutOfRange : PySem.W.subIn K (.ref c_OutOfRange) (.ref c_OutOfRange) = some true
  yv_OutOfRange : PySem.W.subIn K (.ref c_OutOfRange) (.type "ValueError") = some true
  m_LARGE : ∃ t, mg "LARGE" = some (.int 1000000000000000000 t)
  m_DIGITS : ∃ t, mg "DIGITS" = some (.int 18 t)
  m_gcd : mg "gcd" = some (.builtin "math.gcd")
  z_str : mg "str" = none
  z_divmod : mg "divmod" = none
  z_len : mg "len" = none
  z_int : mg "int" = none
  z_isinstance : mg "isinstance" = none
  z_bool : mg "bool" = none
  z_abs : mg "abs" = none
  z_range : mg "range" = none
  z_tuple : mg "tuple" = none
section
variable {w : World} {K : PySem.W.Frag} {mg : Str → Option Value} {base : Heap}
theorem kit_BookError_BookError (T : Txt K mg) : PySem.W.kitOne K (.ref T.c_BookError) (.ref T.c_BookError) = some true := T.e_BookError.kit T.y_BookError_BookError
theorem exm_BookError_BookError (T : Txt K mg) : PySem.W.exmOne K (.ref T.c_BookError) (.ref T.c_BookError) = some true := T.e_BookError.exm T.y_BookError_BookError
theorem kit_BookError_OutOfRange (T : Txt K mg) : PySem.W.kitOne K (.ref T.c_BookError) (.ref T.c_OutOfRange) = some false := T.e_OutOfRange.kit T.y_BookError_OutOfRange
theorem exm_BookError_OutOfRange (T : Txt K mg) : PySem.W.exmOne K (.ref T.c_BookError) (.ref T.c_OutOfRange) = some false := T.e_OutOfRange.exm T.y_BookError_OutOfRange
theorem kit_OutOfRange_BookError (T : Txt K mg) : PySem.W.kitOne K (.ref T.c_OutOfRange) (.ref T.c_BookError) = some true := T.e_BookError.kit T.y_OutOfRange_BookError
theorem exm_OutOfRange_BookError (T : Txt K mg) : PySem.W.exmOne K (.ref T.c_OutOfRange) (.ref T.c_BookError) = some true := T.e_BookError.exm T.y_OutOfRange_BookError
theorem kit_OutOfRange_OutOfRange (T : Txt K mg) : PySem.W.kitOne K (.ref T.c_OutOfRange) (.ref T.c_OutOfRange) = some true := T.e_OutOfRange.kit T.y_OutOfRange_OutOfRange
theorem exm_OutOfRange_OutOfRange (T : Txt K mg) : PySem.W.exmOne K (.ref T.c_OutOfRange) (.ref T.c_OutOfRange) = some true := T.e_OutOfRange.exm T.y_OutOfRange_OutOfRange
local macro_rules | `(tactic| walk_at "kit") => `(tactic| first | exact kit_BookError_BookError (by assumption) | exact kit_BookError_OutOfRange (by assumption) | exact kit_OutOfRange_BookError (by assumption) | exact kit_OutOfRange_OutOfRange (by assumption))
local macro_rules | `(tactic| walk_at "exm") => `(tactic| first | exact exm_BookError_BookError (by assumption) | exact exm_BookError_OutOfRange (by assumption) | exact exm_OutOfRange_BookError (by assumption) | exact exm_OutOfRange_OutOfRange (by assumption))
local macro_rules | `(tactic| walk_at "exv") => `(tactic| first | exact Txt.yv_BookError (by assumption) | exact Txt.yv_OutOfRange (by assumption))
def f_OutOfRange : List V → List (Str × V) := fs1 "OutOfRange" "value"
theorem okx_OutOfRange (T : Txt K mg) : ExcOk P w K mg base T.c_OutOfRange any1 f_OutOfRange 1 := by
  refine T.x_OutOfRange.ok (N := ["self", "value", "__class__"]) (ps := ["value"]) rfl rfl (NdefX.nscope_by (by decide +kernel)) rfl rfl (fun _ _ _ _ _ us hl => match us, hl with | [_, _], _ => rfl) (fun _ _ _ _ => rfl) (fun _ _ _ _ => rfl) (fun _ _ _ _ => rfl) (fun _ _ _ _ => ⟨_, rfl⟩) fun X cc cda fI L hK hN hE hO => ?_
  obtain ⟨_, _, _, _, _, _, _, _, _, _, _, _, _, _, _, _, _⟩ := X
  dsimp only at hK hN hE
  subst hK hN hE
  refine ⟨_, _, pa_cons pe_str pa_nil, pss_cons (ps_ost (pv 0) pe_str) (pss_one (ps_ost (pv 0) (pv 1))), fun a xs H Q hl ea hc q => ?_⟩
  obtain ⟨v, rfl⟩ : ∃ v, xs = [v] := match xs, hl with | [v], _ => ⟨v, rfl⟩
  exact ⟨(by show 1 ≤ 1000; decide), ea, two_stores hO T.n_OutOfRange_label T.n_OutOfRange_value ea (fun _ _ k => k) (fun _ _ k => ⟨_, rfl, k⟩) (fun _ _ k => ⟨_, rfl, k⟩) (fun _ _ k => ⟨_, rfl, k⟩) (fun d H' h1 h2 h3 h4 h5 => q d H' h1 h2 h3 h4 h5)⟩
local macro_rules | `(tactic| walk_at "sl") => `(tactic| first | assumption | (simp only [len_app]; rw [sizeLine_eq]; omega) | (rw [sizeLine_eq]; omega) | (rw [sizeLine_eq]; exact Nat.le_of_ble_eq_true (by rfl)))
local macro_rules | `(tactic| walk_at "call") => `(tactic| first | (apply lenS_go; (walk_at "sl")) | (apply leS_go) | (apply inC_go) | (apply niC_go) | (apply slS_go; (walk_at "sl")) | (apply addS_go; (walk_at "sl")) | (apply ixS_go; (walk_at "sl"); (assumption)))


/-! ### _law_cell -/
@[irreducible] def sp__law_cell (K : PySem.W.Frag) : Sp := fun vs H Q _ => ∃ (l : Addr) (ns : List Int) (j : Nat), vs = [.ref l, .int (j : Nat)] ∧ SqL K H l (ns.map V.int) ∧ ns.length ≤ 63 ∧ j < 64 ∧ Q (.int (cell ns j)) H
theorem ok__law_cell (T : Txt K mg) : FnOk P w K mg base (L2.CX P w) 1 T.a__law_cell T.fd__law_cell ["script", "k"] (sp__law_cell K) := by
  refine T.F__law_cell.ok sc__law_cell (fun vs H Q E h => ?_) (fun cdv A outer s H vs Q E hr h => ?_)
  · unfold sp__law_cell at h
    obtain ⟨l, ns, j, rfl, _⟩ := h
    rfl
  · unfold sp__law_cell at h
    obtain ⟨l, ns, j, rfl, hs, hn, hj, q⟩ := h
    refine ⟨_, (pss_cons (ps_if (pt_cmpR op_lt (pv 1) (pe_callB call_ln rfl T.z_len bt_len (pa_cons (pv 0) pa_nil)) (nomark _)) (pss_one (ps_ret (pe_ix ix_seq (pv 0) (pv 1) (fun _ _ => rfl)))) pss_nil)
    (pss_one (ps_ret pe_int))), ?_⟩
    refine ⟨_, rfl, _, rfl, ln_l hs ⟨_, _, rfl, rfl, _, rfl, ?_⟩⟩
    rw [List.length_map]
    refine ite2 (fun h => ?_) (fun h => ?_)
    · have h' : j < ns.length := by have := of_decide_eq_true h; omega
      refine ⟨_, rfl, _, rfl, .inl ⟨l, _, _, .int (cell ns j), rfl, rfl, hs, ?_, q⟩⟩
      exact atI_map_cell h'
    · have h' : ns.length ≤ j := by
        refine Nat.le_of_not_lt fun z => h (decide_eq_true ?_)
        omega
      have e : cell ns j = 0 := by unfold cell; rw [List.getD_eq_getElem?_getD, List.getElem?_eq_none h']; rfl
      rw [e] at q
      exact q
theorem cell_go {H : Hp} {Q : VK} {E : XK} {l : Addr} {ns : List Int} (j : Nat) (hs : SqL K H l (ns.map V.int)) (hn : ns.length ≤ 63) (hj : j < 64) (q : Q (.int (cell ns j)) H) : sp__law_cell K [.ref l, .int (j : Nat)] H Q E := by
  unfold sp__law_cell
  exact ⟨l, ns, j, rfl, hs, hn, hj, q⟩
theorem cell_at {H : Hp} {Q : VK} {E : XK} {l : Addr} {ns : List Int} {x : Int} (j : Nat) (hs : SqL K H l (ns.map V.int)) (hn : ns.length ≤ 63) (hj : j < 64) (ex : x = (j : Nat)) (q : Q (.int (cell ns j)) H) : sp__law_cell K [.ref l, .int x] H Q E := by
  subst ex
  exact cell_go j hs hn hj q
local macro_rules | `(tactic| walk_at "call") => `(tactic| first | (apply cell_go 0; (walk_at "sq"); assumption; decide) | (apply cell_go 1; (walk_at "sq"); assumption; decide) | (apply cell_go 2; (walk_at "sq"); assumption; decide) | (apply cell_go 3; (walk_at "sq"); assumption; decide) | (apply cell_go 4; (walk_at "sq"); assumption; decide) | (apply cell_go 5; (walk_at "sq"); assumption; decide) | (apply cell_go 6; (walk_at "sq"); assumption; decide) | (apply cell_go 7; (walk_at "sq"); assumption; decide) | (apply cell_go 8; (walk_at "sq"); assumption; decide) | (apply cell_go 9; (walk_at "sq"); assumption; decide) | (apply cell_go 10; (walk_at "sq"); assumption; decide) | (apply cell_go 11; (walk_at "sq"); assumption; decide) | (apply cell_go 12; (walk_at "sq"); assumption; decide) | (apply cell_go 13; (walk_at "sq"); assumption; decide))

/-! ### _law_wide -/
def wide (ns : List Int) (j : Nat) : Int := cell ns j % (2 * 10 ^ 60 + 1) - 10 ^ 60
theorem wide_sz (ns : List Int) (j : Nat) : Sz 201 (wide ns j) := by
  have h1 := Int.emod_nonneg (cell ns j) (b := 2 * 10 ^ 60 + 1) (by decide)
  have h2 := Int.emod_lt_of_pos (cell ns j) (b := 2 * 10 ^ 60 + 1) (by decide)
  refine ⟨?_⟩
  unfold wide
  omega
@[irreducible] def sp__law_wide (K : PySem.W.Frag) : Sp := fun vs H Q _ => ∃ (l : Addr) (ns : List Int) (j : Nat), vs = [.ref l, .int (j : Nat)] ∧ SqL K H l (ns.map V.int) ∧ ns.length ≤ 63 ∧ j < 64 ∧ Q (.int (wide ns j)) H
theorem ok__law_wide (T : Txt K mg) : FnOk P w K mg base (L2.CX P w) 2 T.a__law_wide T.fd__law_wide ["script", "k"] (sp__law_wide K) := by
  refine T.F__law_wide.ok sc__law_wide (fun vs H Q E h => ?_) (fun cdv A outer s H vs Q E hr h => ?_)
  · unfold sp__law_wide at h
    obtain ⟨l, ns, j, rfl, _⟩ := h
    rfl
  · unfold sp__law_wide at h
    obtain ⟨l, ns, j, rfl, hs, hn, hj, q⟩ := h
    refine ⟨_, (pss_one (ps_ret (pe_op op_sub (pe_op op_mod (pe_callTy call_int1 rfl T.z_int bt_int (pa_cons (pe_callS (ok__law_cell T) (hr.mono (by decide)) rfl T.m__law_cell T.F__law_cell.kp T.b__law_cell (fun σ => passAt (takes_of rfl rfl rfl rfl) σ) (pa_cons (pv 0) (pa_cons (pv 1) pa_nil))) pa_nil)) (pe_op op_add (pe_op op_mulB pe_int (pe_op op_pow pe_int pe_int)) pe_int)) (pe_op op_pow pe_int pe_int)))), ?_⟩
    refine ⟨_, rfl, _, rfl, cell_go j hs hn hj (.inl ⟨_, rfl, ?_⟩)⟩
    exact ⟨_, _, rfl, rfl, ⟨by decide, by decide, by decide⟩, _, _, rfl, rfl, CM.of (m := 2) (n := 200) ⟨by decide⟩ ⟨by decide⟩, _, _, rfl, rfl, _, _, rfl, rfl, (by show (0 : Int) < 2 * 10 ^ 60 + 1; decide), _, _, rfl, rfl, ⟨by decide, by decide, by decide⟩, _, _, rfl, rfl, q⟩
theorem wide_go {H : Hp} {Q : VK} {E : XK} {l : Addr} {ns : List Int} (j : Nat) (hs : SqL K H l (ns.map V.int)) (hn : ns.length ≤ 63) (hj : j < 64) (q : Q (.int (wide ns j)) H) : sp__law_wide K [.ref l, .int (j : Nat)] H Q E := by
  unfold sp__law_wide
  exact ⟨l, ns, j, rfl, hs, hn, hj, q⟩
local macro_rules | `(tactic| walk_at "call") => `(tactic| first | (apply wide_go 0; (walk_at "sq"); assumption; decide) | (apply wide_go 1; (walk_at "sq"); assumption; decide) | (apply wide_go 2; (walk_at "sq"); assumption; decide) | (apply wide_go 3; (walk_at "sq"); assumption; decide) | (apply wide_go 4; (walk_at "sq"); assumption; decide) | (apply wide_go 5; (walk_at "sq"); assumption; decide) | (apply wide_go 6; (walk_at "sq"); assumption; decide) | (apply wide_go 7; (walk_at "sq"); assumption; decide) | (apply wide_go 8; (walk_at "sq"); assumption; decide) | (apply wide_go 9; (walk_at "sq"); assumption; decide) | (apply wide_go 10; (walk_at "sq"); assumption; decide) | (apply wide_go 11; (walk_at "sq"); assumption; decide) | (apply wide_go 12; (walk_at "sq"); assumption; decide) | (apply wide_go 13; (walk_at "sq"); assumption; decide))

/-! ### ratio -/
@[irreducible] def sp_ratio (T : Txt K mg) : Sp := fun vs H Q E => ∃ (t b : Int) (n : Nat), vs = [.int t, .int b] ∧
  (b = 0 → ∀ d, H d = none → E (.ref T.c_OutOfRange) (some d) (upd H d (.xd (f_OutOfRange [.int 0])))) ∧
  (b ≠ 0 → Sz n b ∧ n < 1000 ∧ ∀ p H', Same H H' → H p = none → H' p = some (.tup [.int (low t b).1, .int (low t b).2]) → Q (.ref p) H')
theorem ok_ratio (T : Txt K mg) : FnOk P w K mg base (L2.CX P w) 3 T.a_ratio T.fd_ratio ["top", "bottom"] (sp_ratio T) := by
  refine T.F_ratio.ok sc_ratio (fun vs H Q E h => ?_) (fun cdv A outer s H vs Q E hr h => ?_)
  · unfold sp_ratio at h
    obtain ⟨t, b, n, rfl, _⟩ := h
    rfl
  · unfold sp_ratio at h
    obtain ⟨t, b, n, rfl, h1, h2⟩ := h
    refine ⟨_, (pss_cons (ps_if (pt_cmpR op_eq (pv 1) pe_int (nomark _)) (pss_one (ps_raiseX rfl (takes_of rfl rfl rfl rfl) (okx_OutOfRange T) (by decide) (hr.mono (by decide)) rfl T.m_OutOfRange (pa_cons pe_int pa_nil))) pss_nil)
    (pss_cons (ps_cut (ps_if (pt_cmpR op_lt (pv 1) pe_int (nomark _)) (pss_cons (ps_set (i := 0) sc_ratio.nd rfl (Or.inl rfl) (pe_un un_neg (pv 0)))
      (pss_one (ps_set (i := 1) sc_ratio.nd rfl (Or.inl rfl) (pe_un un_neg (pv 1))))) pss_nil))
    (pss_cons (ps_set (i := 2) sc_ratio.nd rfl (Or.inl rfl) (pe_callBfun cr_gcd rfl T.m_gcd (pa_cons (pv 0) (pa_cons (pv 1) pa_nil))))
    (pss_one (ps_ret (pe_tup (pa_cons (pe_op op_fdivB (pv 0) (pv 2)) (pa_cons (pe_op op_fdivB (pv 1) (pv 2)) pa_nil)))))))), ?_⟩
    walk_at "rd"
    refine iteI (fun b0 => ?_) (fun b0 => ?_)
    · walk_at "rd"
      exact h1 b0
    obtain ⟨hb, hn, q⟩ := h2 b0
    have g0 : 0 < Nat.gcd t.natAbs b.natAbs := Nat.gcd_pos_of_pos_right _ (by omega)
    have gs : Sz n (Nat.gcd t.natAbs b.natAbs : Int) := hb.le (by
      have := Nat.gcd_le_right t.natAbs (n := b.natAbs) (by omega)
      omega)
    have cd : ∀ i, CD i (Nat.gcd t.natAbs b.natAbs : Int) := fun i => ⟨by omega, Nat.lt_of_le_of_lt gs.log (by omega)⟩
    have fin : ∀ u v : Int, low t b = (u, v) → ∀ p, H p = none → Q (.ref p) (upd H p (.tup [.int u, .int v])) := fun u v e p hp => by
      refine q p _ (same_new (Same.refl H) hp) hp ?_
      rw [e]
      exact upd_same
    refine ⟨fun σ' H' => Wall (H' = H ∧ ∃ t' b' : Int, σ' = [some (.int t'), some (.int b'), none] ∧ t'.natAbs = t.natAbs ∧ b'.natAbs = b.natAbs ∧ low t b = (t' / (Nat.gcd t.natAbs b.natAbs : Nat), b' / (Nat.gcd t.natAbs b.natAbs : Nat))), ?_, ?_⟩
    · walk_at "rd"
      refine iteD (fun h => ?_) (fun h => ?_)
      · exact ⟨_, rfl, _, rfl, _, rfl, _, rfl, wall ⟨rfl, -t, -b, rfl, Int.natAbs_neg t, Int.natAbs_neg b, if_pos h⟩⟩
      · exact wall ⟨rfl, t, b, rfl, rfl, rfl, if_neg h⟩
    · rintro σ' H' ⟨k⟩
      obtain ⟨rfl, t', b', rfl, et, eb, el⟩ := k trivial
      refine ⟨_, rfl, _, rfl, t', b', rfl, ?_⟩
      rw [et, eb]
      exact ⟨_, rfl, _, rfl, _, _, rfl, rfl, cd _, _, rfl, _, rfl, _, _, rfl, rfl, cd _, by show 2 ≤ sizeLine; decide, fun p hp => fin _ _ el p hp⟩
/-- two pairs are handed in, the pair of top f and bottom g comes out -/
@[irreducible] def sp_arith (T : Txt K mg) (f g : Int → Int → Int → Int → Int) : Sp := fun vs H Q E => ∃ (p q : Addr) (a0 a1 b0 b1 : Int), vs = [.ref p, .ref q] ∧ SqT K H p [.int a0, .int a1] ∧ SqT K H q [.int b0, .int b1] ∧ Sz 210 a0 ∧ Sz 210 a1 ∧ Sz 210 b0 ∧ Sz 210 b1 ∧
  (g a0 a1 b0 b1 = 0 → ∀ d, H d = none → E (.ref T.c_OutOfRange) (some d) (upd H d (.xd (f_OutOfRange [.int 0])))) ∧
  (g a0 a1 b0 b1 ≠ 0 → ∀ p' H', Same H H' → H p' = none → H' p' = some (.tup [.int (low (f a0 a1 b0 b1) (g a0 a1 b0 b1)).1, .int (low (f a0 a1 b0 b1) (g a0 a1 b0 b1)).2]) → Q (.ref p') H')

/-! ### _law_gcd -/
/-- the pair behind i turns -/
def euc (x y : Nat) : Nat → Nat × Nat
  | 0 => (x, y)
  | i + 1 => ((euc x y i).2, (euc x y i).1 % (euc x y i).2)
theorem euc_gcd (x y : Nat) : ∀ i, (∀ j, j < i → (euc x y j).2 ≠ 0) → Nat.gcd (euc x y i).1 (euc x y i).2 = Nat.gcd x y
  | 0, _ => rfl
  | i + 1, h => by
    have ih := euc_gcd x y i fun j hj => h j (Nat.lt_succ_of_lt hj)
    show Nat.gcd (euc x y i).2 ((euc x y i).1 % (euc x y i).2) = _
    rw [← ih, Nat.gcd_comm (euc x y i).1, Nat.gcd_rec (euc x y i).2 (euc x y i).1, Nat.gcd_comm]
theorem euc_half (x y i : Nat) (h0 : (euc x y i).2 ≠ 0) (h1 : (euc x y (i + 1)).2 ≠ 0) : 2 * (euc x y (i + 2)).2 < (euc x y i).2 := by
  have e1 : (euc x y (i + 1)).2 = (euc x y i).1 % (euc x y i).2 := rfl
  have e2 : (euc x y (i + 2)).2 = (euc x y i).2 % ((euc x y i).1 % (euc x y i).2) := rfl
  have l1 : (euc x y i).1 % (euc x y i).2 < (euc x y i).2 := Nat.mod_lt _ (Nat.pos_of_ne_zero h0)
  rw [e1] at h1
  rw [e2]
  generalize (euc x y i).1 % (euc x y i).2 = r at h1 l1
  generalize (euc x y i).2 = b at l1
  have l2 : b % r < r := Nat.mod_lt _ (Nat.pos_of_ne_zero h1)
  by_cases c : 2 * r ≤ b
  · omega
  · have e3 : b % r = b - r := by
      rw [Nat.mod_eq_sub_mod (by omega), Nat.mod_eq_of_lt (by omega)]
    omega
theorem euc_ends (x y : Nat) : ∀ n, y < 2 ^ n → ∃ j, j ≤ 2 * n ∧ (euc x y j).2 = 0 := by
  have key : ∀ n i, (∀ j, j < i + 2 * n → (euc x y j).2 ≠ 0) → (euc x y i).2 < 2 ^ n → (euc x y (i + 2 * n)).2 = 0 := by
    intro n
    induction n with
    | zero =>
      intro i _ h
      have : (euc x y i).2 < 1 := h
      show (euc x y i).2 = 0
      omega
    | succ n ih =>
      intro i hj h
      have hh := euc_half x y i (hj i (by omega)) (hj (i + 1) (by omega))
      have l : (euc x y (i + 2)).2 < 2 ^ n := by
        rw [Nat.pow_succ] at h
        omega
      have := ih (i + 2) (fun j l => hj j (by omega)) l
      rw [show i + 2 * (n + 1) = i + 2 + 2 * n by omega]
      exact this
  intro n hy
  by_cases c : ∃ j, j < 2 * n ∧ (euc x y j).2 = 0
  · obtain ⟨j, l, e⟩ := c
    exact ⟨j, by omega, e⟩
  · refine ⟨2 * n, by omega, ?_⟩
    have := key n 0 (fun j l e => c ⟨j, by omega, e⟩) hy
    rw [Nat.zero_add] at this
    exact this
def sp__law_gcd : Sp := fun vs H Q _ => ∃ (a b : Int) (n : Nat), vs = [.int a, .int b] ∧ Sz n b ∧ n < 1000 ∧ Q (.int ((Nat.gcd a.natAbs b.natAbs : Nat) : Int)) H
theorem abs_nat (a : Int) : (if a < 0 then -a else a) = (a.natAbs : Int) := by
  split <;> omega
theorem ok__law_gcd (T : Txt K mg) : FnOk P w K mg base (L2.CX P w) 1 T.a__law_gcd T.fd__law_gcd ["a", "b"] sp__law_gcd := by
  refine T.F__law_gcd.ok sc__law_gcd (fun vs H Q E h => ?_) (fun cdv A outer s H vs Q E hr h => ?_)
  · obtain ⟨a, b, n, rfl, _⟩ := h
    rfl
  · obtain ⟨a, b, n, rfl, hb, hn, q⟩ := h
    refine ⟨_, (pss_cons (ps_set (i := 0) sc__law_gcd.nd rfl (Or.inl rfl) (pe_callB call_abs rfl T.z_abs bt_abs (pa_cons (pv 0) pa_nil)))
    (pss_cons (ps_set (i := 1) sc__law_gcd.nd rfl (Or.inl rfl) (pe_callB call_abs rfl T.z_abs bt_abs (pa_cons (pv 1) pa_nil)))
    (pss_cons (ps_for (passes_of rfl) rfl (pi_range1 rfl T.z_range (pa_cons pe_int pa_nil)) (pg_name (i := 2) sc__law_gcd.nd rfl (Or.inl rfl))
      (pss_cons (ps_if (pt_cmpR op_eq (pv 1) pe_int (nomark _)) (pss_one ps_break) pss_nil)
      (pss_cons (ps_set (i := 3) sc__law_gcd.nd rfl (Or.inl rfl) (pe_op op_mod (pe_callTy call_int1 rfl T.z_int bt_int (pa_cons (pv 0) pa_nil)) (pv 1)))
      (pss_cons (ps_set (i := 0) sc__law_gcd.nd rfl (Or.inl rfl) (pv 1))
      (pss_one (ps_set (i := 1) sc__law_gcd.nd rfl (Or.inl rfl) (pv 3)))))))
    (pss_one (ps_ret (pv 0)))))), ?_⟩
    walk_at "rd"
    rw [abs_nat, abs_nat]
    refine ⟨by decide, by decide, for_range (n := 2000) (fun i σ H' => ∃ v r : Option V, H' = H ∧ σ = [some (.int ((euc a.natAbs b.natAbs i).1 : Int)), some (.int ((euc a.natAbs b.natAbs i).2 : Int)), v, r] ∧ ∀ j, j < i → (euc a.natAbs b.natAbs j).2 ≠ 0)
      ⟨none, none, rfl, rfl, fun j l => absurd l (Nat.not_lt_zero j)⟩ ?_ ?_⟩
    · rintro i σ H' hi ⟨v, r, rfl, rfl, hj⟩
      walk_at "rd"
      refine ite2 (fun h => ?_) (fun h => ?_)
      · have h0 : (euc a.natAbs b.natAbs i).2 = 0 := by
          have := V.int.inj (of_decide_eq_true h)
          omega
        walk_at "rd"
        have e := euc_gcd a.natAbs b.natAbs i hj
        rw [h0, Nat.gcd_zero_right] at e
        rw [e]
        exact q
      · have h0 : (euc a.natAbs b.natAbs i).2 ≠ 0 := fun z => h (decide_eq_true (by rw [z]; rfl))
        refine ⟨_, rfl, .inl ⟨_, rfl, _, rfl, _, _, rfl, rfl, by omega, _, rfl, _, rfl, some (.int (0 + (i : Int))), some (.int ((euc a.natAbs b.natAbs (i + 1)).2 : Int)), rfl, rfl, fun j l => ?_⟩⟩
        by_cases c : j < i
        · exact hj j c
        · rw [show j = i by omega]
          exact h0
    · rintro σ H' ⟨v, r, rfl, rfl, hj⟩
      obtain ⟨j, l, e⟩ := euc_ends a.natAbs b.natAbs n hb.lt
      exact absurd e (hj j (by omega))

/-! ### _law_lowest -/
def sp__law_lowest : Sp := fun vs H Q _ => ∃ (t b : Int) (n : Nat), vs = [.int t, .int b] ∧ Sz n b ∧ b ≠ 0 ∧ n < 1000 ∧ ∀ p H', Same H H' → H p = none → H' p = some (.tup [.int (low t b).1, .int (low t b).2]) → Q (.ref p) H'
theorem ok__law_lowest (T : Txt K mg) : FnOk P w K mg base (L2.CX P w) 2 T.a__law_lowest T.fd__law_lowest ["top", "bottom"] sp__law_lowest := by
  refine T.F__law_lowest.ok sc__law_lowest (fun vs H Q E h => ?_) (fun cdv A outer s H vs Q E hr h => ?_)
  · obtain ⟨t, b, n, rfl, _⟩ := h
    rfl
  · obtain ⟨t, b, n, rfl, hb, b0, hn, q⟩ := h
    refine ⟨_, (pss_cons (ps_cut (ps_if (pt_cmpR op_lt (pv 1) pe_int (nomark _)) (pss_cons (ps_set (i := 0) sc__law_lowest.nd rfl (Or.inl rfl) (pe_un un_neg (pv 0)))
      (pss_one (ps_set (i := 1) sc__law_lowest.nd rfl (Or.inl rfl) (pe_un un_neg (pv 1))))) pss_nil))
    (pss_cons (ps_set (i := 2) sc__law_lowest.nd rfl (Or.inl rfl) (pe_callS (ok__law_gcd T) (hr.mono (by decide)) rfl T.m__law_gcd T.F__law_gcd.kp T.b__law_gcd (fun σ => passAt (takes_of rfl rfl rfl rfl) σ) (pa_cons (pv 0) (pa_cons (pv 1) pa_nil))))
    (pss_one (ps_ret (pe_tup (pa_cons (pe_op op_fdivB (pv 0) (pv 2)) (pa_cons (pe_op op_fdivB (pv 1) (pv 2)) pa_nil))))))), ?_⟩
    have g0 : 0 < Nat.gcd t.natAbs b.natAbs := Nat.gcd_pos_of_pos_right _ (by omega)
    have gs : Sz n (Nat.gcd t.natAbs b.natAbs : Int) := hb.le (by
      have := Nat.gcd_le_right t.natAbs (n := b.natAbs) (by omega)
      omega)
    have cd : ∀ i, CD i (Nat.gcd t.natAbs b.natAbs : Int) := fun i => ⟨by omega, Nat.lt_of_le_of_lt gs.log (by omega)⟩
    have fin : ∀ u v : Int, low t b = (u, v) → ∀ p, H p = none → Q (.ref p) (upd H p (.tup [.int u, .int v])) := fun u v e p hp => by
      refine q p _ (same_new (Same.refl H) hp) hp ?_
      rw [e]
      exact upd_same
    refine ⟨fun σ' H' => H' = H ∧ ∃ t' b' : Int, σ' = [some (.int t'), some (.int b'), none] ∧ t'.natAbs = t.natAbs ∧ b'.natAbs = b.natAbs ∧ low t b = (t' / (Nat.gcd t.natAbs b.natAbs : Nat), b' / (Nat.gcd t.natAbs b.natAbs : Nat)), ?_, ?_⟩
    · walk_at "rd"
      refine iteD (fun h => ?_) (fun h => ?_)
      · exact ⟨_, rfl, _, rfl, _, rfl, _, rfl, rfl, -t, -b, rfl, Int.natAbs_neg t, Int.natAbs_neg b, if_pos h⟩
      · exact ⟨rfl, t, b, rfl, rfl, rfl, if_neg h⟩
    · rintro σ' H' ⟨rfl, t', b', rfl, et, eb, el⟩
      refine ⟨_, rfl, _, rfl, t', b', n, rfl, hb.le (by omega), hn, ?_⟩
      rw [et, eb]
      exact ⟨_, rfl, _, rfl, _, _, rfl, rfl, cd _, _, rfl, _, rfl, _, _, rfl, rfl, cd _, by show 2 ≤ sizeLine; decide, fun p hp => fin _ _ el p hp⟩


/-! ### _law_refused -/
@[irreducible] def sp__law_refused : Sp := fun vs H Q _ => ∃ (u : Int), vs = [.int u] ∧ ∀ H', Same H H' → Q (.int 0) H'
theorem ok__law_refused (T : Txt K mg) : FnOk P w K mg base (L2.CX P w) 5 T.a__law_refused T.fd__law_refused ["top"] sp__law_refused := by
  refine T.F__law_refused.ok sc__law_refused (fun vs H Q E h => ?_) (fun cdv A outer s H vs Q E hr h => ?_)
  · unfold sp__law_refused at h
    obtain ⟨u, rfl, _⟩ := h
    rfl
  · unfold sp__law_refused at h
    obtain ⟨u, rfl, q⟩ := h
    refine ⟨_, (pss_one (ps_tryX rfl rfl (takes_of rfl rfl rfl rfl) (fun W pn xe tk po => (pss_cons (ps_expr (pe_callSD (ok_ratio T) (hr.mono (by decide)) rfl T.m_ratio T.F_ratio.kp T.b2_ratio (fun σ => passAt tk σ) (pa_cons (pv 0) (pa_cons pe_int pa_nil))))
        (pss_one (ps_ret pe_non))))
      (HdsX.named (i := 1) sc__law_refused.nd rfl rfl ⟨rfl, by decide, .inl T.m_OutOfRange⟩ (fun a oe cls d pn hz hf => (pss_one (ps_ret (pe_xf T.e_OutOfRange.xf T.n_OutOfRange_value hz hf (pv 1)))))
      HdsX.nil))), ?_⟩
    walk_at "rd"
    unfold sp_ratio
    refine ⟨u, 0, 0, rfl, fun _ d hd => ?_, fun h => (h rfl).elim⟩
    refine wx_hit (by walk_at "exm") fun a ha => ?_
    walk_at "rd"
    exact q _ (same_new (Same.refl H) hd)
theorem _law_refused_go {H : Hp} {Q : VK} {E : XK} {u : Int} (q : ∀ H', Same H H' → Q (.int 0) H') : sp__law_refused [.int u] H Q E := by
  unfold sp__law_refused
  exact ⟨u, rfl, q⟩

/-! ### _law_whole -/
def sp__law_whole : Sp := fun vs H Q _ => ∃ (x : V) (b : Bool), vs = [x] ∧ wholeV x = some b ∧ Q (.bl b) H
theorem ok__law_whole (T : Txt K mg) : FnOk P w K mg base (L2.CX P w) 1 T.a__law_whole T.fd__law_whole ["x"] sp__law_whole := by
  refine T.F__law_whole.ok sc__law_whole (fun vs H Q E h => ?_) (fun cdv A outer s H vs Q E hr h => ?_)
  · obtain ⟨x, b, rfl, _⟩ := h
    rfl
  · obtain ⟨x, b, rfl, hb, q⟩ := h
    refine ⟨_, (pss_one (ps_ret (pe_and (pe_callB call_is rfl T.z_isinstance bt_isinstance (pa_cons (pv 0) (pa_cons (pe_bltn (v := .ty "int") rfl T.z_int bt_int rfl) pa_nil))) (pe_one (pe_not (pe_callB call_is rfl T.z_isinstance bt_isinstance (pa_cons (pv 0) (pa_cons (pe_bltn (v := .ty "bool") rfl T.z_bool bt_bool rfl) pa_nil)))))))), ?_⟩
    cases x with
    | int i =>
      cases hb
      walk_at "rd"
      exact q
    | bl i =>
      cases hb
      walk_at "rd"
      exact q
    | str i =>
      cases hb
      walk_at "rd"
      exact q
    | non =>
      cases hb
      walk_at "rd"
      exact q
    | byt _ => cases hb
    | flt _ => cases hb
    | ref _ => cases hb
    | ty _ => cases hb

/-! ### show_integer -/
/-- no call at all -/
theorem okF_show_integer (T : Txt K mg) : FnOk P w K mg base (L2.CX P w) 1 T.a_show_integer T.fd_show_integer ["value"] (fun _ _ _ _ => False) :=
  T.F_show_integer.ok sc_show_integer (fun vs H Q E h => h.elim) (fun cdv A outer s H vs Q E hr h => h.elim)
@[irreducible] def spN_show_integer : Sp := fun vs H Q E => ∃ (n : Int), vs = [.int n] ∧ 0 ≤ n ∧ Sz 1900 n ∧ (∀ H', Same H H' → Q (.str (toString n)) H')
theorem okN_show_integer (T : Txt K mg) : FnOk P w K mg base (L2.CX P w) 2 T.a_show_integer T.fd_show_integer ["value"] spN_show_integer := by
  have ok_show_integer : ∀ T : Txt K mg, FnOk P w K mg base (L2.CX P w) 1 T.a_show_integer T.fd_show_integer ["value"] (fun _ _ _ _ => False) := okF_show_integer
  refine T.F_show_integer.ok sc_show_integer (fun vs H Q E h => ?_) (fun cdv A outer s H vs Q E hr h => ?_)
  · unfold spN_show_integer at h
    obtain ⟨n, rfl, _⟩ := h
    rfl
  · unfold spN_show_integer at h
    obtain ⟨n, rfl, n0, z, q⟩ := h
    refine ⟨_, (pss_cons (ps_if (pt_cmpR op_lt (pv 0) pe_int (nomark _)) (pss_one (ps_ret (pe_joined (.cons pe_str (.cons (pe_fmt (pe_callS (ok_show_integer T) (hr.mono (by decide)) rfl T.m_show_integer T.F_show_integer.kp T.b_show_integer (fun σ => passAt (takes_of rfl rfl rfl rfl) σ) (pa_cons (pe_un un_neg (pv 0)) pa_nil))) .nil))))) pss_nil)
    (pss_cons (ps_if (pt_cmpR op_lt (pv 0) (pe_glob (v := .int 1000000000000000000) rfl T.m_LARGE.choose_spec ⟨_, rfl⟩) (nomark _)) (pss_one (ps_ret (pe_callTy call_strI rfl T.z_str bt_str (pa_cons (pv 0) pa_nil)))) pss_nil)
    (pss_cons (ps_set (i := 1) sc_show_integer.nd rfl (Or.inl rfl) (pe_lst pa_nil))
    (pss_cons (ps_while (passes_of rfl) (pt_cmpR op_gt (pv 0) pe_int (nomark _))
      (pss_cons (ps_asg (pe_callB call_dvm rfl T.z_divmod bt_divmod (pa_cons (pv 0) (pa_cons (pe_glob (v := .int 1000000000000000000) rfl T.m_LARGE.choose_spec ⟨_, rfl⟩) pa_nil))) (pg_tup rfl (pgs_cons (pg_name (i := 0) sc_show_integer.nd rfl (Or.inl rfl)) (pgs_cons (pg_name (i := 2) sc_show_integer.nd rfl (Or.inl rfl)) pgs_nil))))
      (pss_one (ps_expr (pe_bm PySem.F.plainAttrs_list PySem.F.slot_list_append PySem.F.type_list_append mt_app (pv 1) (pa_cons (pe_bm PySem.F.plainAttrs_str PySem.F.slot_str_rjust PySem.F.type_str_rjust mt_rjF (pe_callTy call_strI rfl T.z_str bt_str (pa_cons (pv 2) pa_nil)) (pa_cons (pe_glob (v := .int 18) rfl T.m_DIGITS.choose_spec ⟨_, rfl⟩) (pa_cons pe_str pa_nil))) pa_nil))))))
    (pss_one (ps_ret (pe_bm PySem.F.plainAttrs_str PySem.F.slot_str_lstrip PySem.F.type_str_lstrip mt_lsC (pe_m1 PySem.F.slot_str_join PySem.F.type_str_join mt_joinS pe_str (pe_revL (pv 1))) (pa_cons pe_str pa_nil)))))))), ?_⟩
    walk_at "rd"
    refine iteD (fun c => absurd (show n < 0 from c) (by omega)) (fun _ => ?_)
    walk_at "rd"
    refine iteD (fun c => ?_) (fun c => ?_)
    · walk_at "rd"
      refine strI_go (Nat.lt_of_le_of_lt z.log (by decide)) ?_
      exact q H (Same.refl H)
    walk_at "rd"
    rename_i D nD
    have hz : n.toNat < (10 ^ 18) ^ 32 := by
      have h1 : n.toNat = n.natAbs := by omega
      have h2 := z.1
      rw [h1]
      exact Nat.lt_of_lt_of_le h2 (by decide +kernel)
    have cst : ∀ k : Nat, n / ((10 : Int) ^ 18) ^ k = ((n.toNat / (10 ^ 18) ^ k : Nat) : Int) := fun k => by
      rw [Int.natCast_ediv, Int.toNat_of_nonneg n0, Int.natCast_pow, Int.natCast_pow]
      rfl
    refine ⟨fun m σ H' => Wall (∃ k : Nat, ∃ u, m = n.toNat / (10 ^ 18) ^ k ∧ Same H H' ∧ H' D = some (.lst ((chk n.toNat k).map V.str)) ∧ k ≤ 32 ∧ σ = [some (.int (n / ((10 : Int) ^ 18) ^ k)), some (.ref D), u]), ⟨n.toNat / (10 ^ 18) ^ 0, ?_⟩, ?_⟩
    · refine wall ⟨0, none, rfl, same_new (Same.refl H) nD, upd_same, by decide, ?_⟩
      rw [Int.pow_zero, Int.ediv_one]
      rfl
    · rintro m σ H' ⟨w1⟩
      obtain ⟨k, u, rfl, sm, eD, hk, rfl⟩ := w1 trivial
      have hc := cst k
      obtain ⟨v, hv⟩ : ∃ v, v = n / ((10 : Int) ^ 18) ^ k := ⟨_, rfl⟩
      rw [← hv]
      rw [← hv] at hc
      have vn : 0 ≤ v := by
        rw [hc]
        exact Int.natCast_nonneg _
      have zv : Sz 1900 v := by
        rw [hv]
        exact z.div
      walk_at "rd"
      refine iteD (fun c => ?_) (fun c => ?_)
      · have c0 : 0 < v := c
        have hk2 : k < 32 := by
          refine Nat.lt_of_le_of_ne hk fun e => ?_
          rw [e, Nat.div_eq_of_lt hz] at hc
          omega
        refine ⟨_, fun σ' H' h => h, ?_⟩
        walk_at "rd"
        refine dvm_go zv (by decide) (by decide) fun p np => ?_
        have r0 : 0 ≤ v % 1000000000000000000 := Int.emod_nonneg _ (by decide)
        have r1 : v % 1000000000000000000 < 1000000000000000000 := Int.emod_lt_of_pos _ (by decide)
        have zr : Sz 60 (v % 1000000000000000000) := ⟨by omega⟩
        walk_at "rd"
        refine strI_go (Nat.lt_of_le_of_lt zr.log (by decide)) ?_
        walk_at "rd"
        refine rjF_go (padOk_of (by decide) (by decide)) rfl ?_
        walk_at "rd"
        refine app_go (hp_upd np eD) (by rw [List.length_map, chk_len, sizeLine_eq]; omega) ?_
        refine ⟨_, ?_, wall ⟨k + 1, some (.int (v % 1000000000000000000)), rfl, same_set (same_new sm np) nD, ?_, by omega, ?_⟩⟩
        · have hp0 : 0 < n.toNat / (10 ^ 18) ^ k := by omega
          rw [Nat.pow_succ, ← Nat.div_div_eq_div_mul]
          exact Nat.div_lt_self hp0 (by decide)
        · rw [upd_same, chk, List.map_append]
          have e : ((n.toNat / (10 ^ 18) ^ k % 10 ^ 18 : Nat) : Int) = v % 1000000000000000000 := by
            rw [hc, Int.natCast_emod]
            rfl
          rw [e]
          rfl
        · have e : n / ((10 : Int) ^ 18) ^ (k + 1) = v / 1000000000000000000 := by
            rw [hv, Int.pow_succ, ← Int.ediv_ediv_of_nonneg (Int.pow_nonneg (by decide))]
            rfl
          rw [e]
          rfl
      · have v0 : v = 0 := by
          have : ¬ (0 < v) := c
          omega
        have hk3 : n.toNat < (10 ^ 18) ^ k := by
          rw [v0] at hc
          exact (Nat.div_eq_zero_iff_lt (Nat.pow_pos (by decide))).mp (by omega)
        refine ⟨⟨_, rfl⟩, ⟨_, rfl, ⟨D, _, rfl, l_of eD, fun b nb => ?_⟩⟩⟩
        rw [← List.map_reverse]
        refine joinS_go (l_of upd_same) ?_ ?_
        · rw [sum18 _ fun y hy => chk_each n.toNat k y (List.mem_reverse.mp hy), List.length_reverse, chk_len]
          show 18 * k + k * 0 ≤ _
          omega
        have hl : (Txt.join Str.empty (chk n.toNat k).reverse).length = 18 * k := by
          have e := tl_join0 (chk n.toNat k).reverse
          rw [chk_tl] at e
          have e2 := congrArg List.length e
          rw [dw_len] at e2
          exact e2
        walk_at "rd"
        refine lsC_go (by show (Txt.join Str.empty (chk n.toNat k).reverse).length ≤ _; rw [hl, sizeLine_eq]; omega) ?_
        have e := chk_str (n := n.toNat) (k := k) (by omega) hk3
        rw [Int.toNat_of_nonneg n0] at e
        have q1 := q (upd H' b (.lst ((chk n.toNat k).reverse.map V.str))) (same_new sm nb)
        rw [← e] at q1
        exact q1
@[irreducible] def spM_show_integer : Sp := fun vs H Q E => ∃ (n : Int), vs = [.int n] ∧ n < 0 ∧ Sz 1900 n ∧ (∀ H', Same H H' → Q (.str (toString n)) H')
theorem okM_show_integer (T : Txt K mg) : FnOk P w K mg base (L2.CX P w) 3 T.a_show_integer T.fd_show_integer ["value"] spM_show_integer := by
  have ok_show_integer : ∀ T : Txt K mg, FnOk P w K mg base (L2.CX P w) 2 T.a_show_integer T.fd_show_integer ["value"] spN_show_integer := okN_show_integer
  refine T.F_show_integer.ok sc_show_integer (fun vs H Q E h => ?_) (fun cdv A outer s H vs Q E hr h => ?_)
  · unfold spM_show_integer at h
    obtain ⟨n, rfl, _⟩ := h
    rfl
  · unfold spM_show_integer at h
    obtain ⟨n, rfl, n0, z, q⟩ := h
    refine ⟨_, (pss_cons (ps_if (pt_cmpR op_lt (pv 0) pe_int (nomark _)) (pss_one (ps_ret (pe_joined (.cons pe_str (.cons (pe_fmt (pe_callS (ok_show_integer T) (hr.mono (by decide)) rfl T.m_show_integer T.F_show_integer.kp T.b_show_integer (fun σ => passAt (takes_of rfl rfl rfl rfl) σ) (pa_cons (pe_un un_neg (pv 0)) pa_nil))) .nil))))) pss_nil)
    (pss_cons (ps_if (pt_cmpR op_lt (pv 0) (pe_glob (v := .int 1000000000000000000) rfl T.m_LARGE.choose_spec ⟨_, rfl⟩) (nomark _)) (pss_one (ps_ret (pe_callTy call_strI rfl T.z_str bt_str (pa_cons (pv 0) pa_nil)))) pss_nil)
    (pss_cons (ps_set (i := 1) sc_show_integer.nd rfl (Or.inl rfl) (pe_lst pa_nil))
    (pss_cons (ps_while (passes_of rfl) (pt_cmpR op_gt (pv 0) pe_int (nomark _))
      (pss_cons (ps_asg (pe_callB call_dvm rfl T.z_divmod bt_divmod (pa_cons (pv 0) (pa_cons (pe_glob (v := .int 1000000000000000000) rfl T.m_LARGE.choose_spec ⟨_, rfl⟩) pa_nil))) (pg_tup rfl (pgs_cons (pg_name (i := 0) sc_show_integer.nd rfl (Or.inl rfl)) (pgs_cons (pg_name (i := 2) sc_show_integer.nd rfl (Or.inl rfl)) pgs_nil))))
      (pss_one (ps_expr (pe_bm PySem.F.plainAttrs_list PySem.F.slot_list_append PySem.F.type_list_append mt_app (pv 1) (pa_cons (pe_bm PySem.F.plainAttrs_str PySem.F.slot_str_rjust PySem.F.type_str_rjust mt_rjF (pe_callTy call_strI rfl T.z_str bt_str (pa_cons (pv 2) pa_nil)) (pa_cons (pe_glob (v := .int 18) rfl T.m_DIGITS.choose_spec ⟨_, rfl⟩) (pa_cons pe_str pa_nil))) pa_nil))))))
    (pss_one (ps_ret (pe_bm PySem.F.plainAttrs_str PySem.F.slot_str_lstrip PySem.F.type_str_lstrip mt_lsC (pe_m1 PySem.F.slot_str_join PySem.F.type_str_join mt_joinS pe_str (pe_revL (pv 1))) (pa_cons pe_str pa_nil)))))))), ?_⟩
    walk_at "rd"
    refine iteD (fun _ => ?_) (fun c => absurd n0 c)
    have hl := str_le (i := -n) (by omega) z.neg
    walk_at "rd"
    refine ⟨by rw [sizeLine_eq]; exact Nat.le_of_ble_eq_true (by rfl), ?_⟩
    walk_at "rd"
    unfold spN_show_integer
    refine ⟨-n, rfl, by omega, z.neg, fun H' sm => ?_⟩
    walk_at "rd"
    refine ⟨by rw [sizeLine_eq]; omega, _, rfl, ?_, ?_⟩
    · rw [len_app, sizeLine_eq]
      have : (Str.empty ++ Str.ofString "-" : Str).length = 1 := rfl
      omega
    have q1 := q H' sm
    rw [str_neg n0] at q1
    exact q1
@[irreducible] def sp_show_integer : Sp := fun vs H Q E => ∃ (n : Int), vs = [.int n] ∧ Sz 1900 n ∧ (∀ H', Same H H' → Q (.str (toString n)) H')
theorem ok_show_integer (T : Txt K mg) : FnOk P w K mg base (L2.CX P w) 3 T.a_show_integer T.fd_show_integer ["value"] sp_show_integer := by
  refine ⟨fun vs H Q E h => ?_, fun A outer s H args us vs Q E hr he hb hv hs => ?_⟩
  · unfold sp_show_integer at h
    obtain ⟨n, rfl, _⟩ := h
    rfl
  · unfold sp_show_integer at hs
    obtain ⟨n, rfl, z, q⟩ := hs
    by_cases c : 0 ≤ n
    · exact ((okN_show_integer T).mono (by decide)).run A outer s H args us _ Q E hr he hb hv (by
        unfold spN_show_integer
        exact ⟨n, rfl, c, z, q⟩)
    · exact (okM_show_integer T).run A outer s H args us _ Q E hr he hb hv (by
        unfold spM_show_integer
        exact ⟨n, rfl, by omega, z, q⟩)
theorem show_integer_go {H : Hp} {Q : VK} {E : XK} {n : Int} (z : Sz 1900 n) (q : ∀ H', Same H H' → Q (.str (toString n)) H') : sp_show_integer [.int n] H Q E := by
  unfold sp_show_integer
  exact ⟨n, rfl, z, q⟩

/-! ### show_ratio -/
/-- the text of a ratio -/
def shR (u v : Int) : Str := if v = 1 then Str.ofString (toString u) else Str.ofString (toString u) ++ Str.ofString "/" ++ Str.ofString (toString v)
@[irreducible] def sp_show_ratio (K : PySem.W.Frag) : Sp := fun vs H Q E => ∃ (p : Addr) (u v : Int), vs = [.ref p] ∧ SqT K H p [.int u, .int v] ∧ Sz 1900 u ∧ Sz 1900 v ∧ (∀ H', Same H H' → Q (.str (shR u v)) H')
theorem ok_show_ratio (T : Txt K mg) : FnOk P w K mg base (L2.CX P w) 4 T.a_show_ratio T.fd_show_ratio ["a"] (sp_show_ratio K) := by
  refine T.F_show_ratio.ok sc_show_ratio (fun vs H Q E h => ?_) (fun cdv A outer s H vs Q E hr h => ?_)
  · unfold sp_show_ratio at h
    obtain ⟨p, u, v, rfl, _⟩ := h
    rfl
  · unfold sp_show_ratio at h
    obtain ⟨p, u, v, rfl, hp, zu, zv, q⟩ := h
    refine ⟨_, (pss_cons (ps_if (pt_cmpR op_eq (pe_ix ix_seq (pv 0) pe_int (fun _ _ => rfl)) pe_int (nomark _)) (pss_one (ps_ret (pe_callS (ok_show_integer T) (hr.mono (by decide)) rfl T.m_show_integer T.F_show_integer.kp T.b_show_integer (fun σ => passAt (takes_of rfl rfl rfl rfl) σ) (pa_cons (pe_ix ix_seq (pv 0) pe_int (fun _ _ => rfl)) pa_nil)))) pss_nil)
    (pss_one (ps_ret (pe_joined (.cons (pe_fmt (pe_callS (ok_show_integer T) (hr.mono (by decide)) rfl T.m_show_integer T.F_show_integer.kp T.b_show_integer (fun σ => passAt (takes_of rfl rfl rfl rfl) σ) (pa_cons (pe_ix ix_seq (pv 0) pe_int (fun _ _ => rfl)) pa_nil))) (.cons pe_str (.cons (pe_fmt (pe_callS (ok_show_integer T) (hr.mono (by decide)) rfl T.m_show_integer T.F_show_integer.kp T.b_show_integer (fun σ => passAt (takes_of rfl rfl rfl rfl) σ) (pa_cons (pe_ix ix_seq (pv 0) pe_int (fun _ _ => rfl)) pa_nil))) .nil))))))), ?_⟩
    have l1 := str_len1 zu
    have l2 := str_len1 zv
    walk_at "rd"
    refine iteI (fun c => ?_) (fun c => ?_)
    · walk_at "rd"
      refine show_integer_go zu fun H' sm => ?_
      have q1 := q H' sm
      unfold shR at q1
      rw [if_pos c] at q1
      exact q1
    walk_at "rd"
    refine show_integer_go zu fun H1 s1 => ?_
    have hp1 := same_tup s1 hp
    walk_at "rd"
    refine ⟨by rw [sizeLine_eq]; omega, _, rfl, by rw [len_app, sizeLine_eq]; show 0 + _ ≤ _; omega, ?_⟩
    walk_at "rd"
    have l0 : ∀ x : Str, (Str.empty ++ x).length = x.length := fun x => by rw [emp_app]
    have l3 : (Str.ofString "/").length = 1 := rfl
    refine ⟨by rw [len_app, l0, l3, sizeLine_eq]; omega, ?_⟩
    walk_at "rd"
    refine show_integer_go zv fun H2 s2 => ?_
    walk_at "rd"
    refine ⟨by rw [sizeLine_eq]; omega, _, rfl, by rw [len_app, len_app, l0, l3, sizeLine_eq]; omega, ?_⟩
    rw [emp_app]
    have q1 := q H2 (s1.trans s2)
    unfold shR at q1
    rw [if_neg c] at q1
    exact q1
theorem show_ratio_go {H : Hp} {Q : VK} {E : XK} {p : Addr} {u v : Int} (hp : SqT K H p [.int u, .int v]) (zu : Sz 1900 u) (zv : Sz 1900 v) (q : ∀ H', Same H H' → Q (.str (shR u v)) H') : sp_show_ratio K [.ref p] H Q E := by
  unfold sp_show_ratio
  exact ⟨p, u, v, rfl, hp, zu, zv, q⟩

/-! ### law -/
theorem low_one (t : Int) : low t 1 = (t, 1) := by
  unfold low
  rw [if_neg (by decide), show Nat.gcd t.natAbs (1 : Int).natAbs = 1 from Nat.gcd_one_right _]
  rw [show ((1 : Nat) : Int) = 1 from rfl, Int.ediv_one, Int.ediv_one]
theorem ok_law (T : Txt K mg) : FnOk P w K mg base (L2.CX P w) 6 T.a_law T.fd_law ["script"] (sp_law K) := by
  refine T.F_law.ok sc_law (fun vs H Q E h => ?_) (fun cdv A outer s H vs Q E hr h => ?_)
  · obtain ⟨l, ns, rfl, _⟩ := h
    rfl
  · obtain ⟨l, ns, rfl, hs, hn, hb, q⟩ := h
    refine ⟨_, (pss_cons (ps_set (i := 1) sc_law.nd rfl (Or.inl rfl) (pe_callS (ok__law_wide T) (hr.mono (by decide)) rfl T.m__law_wide T.F__law_wide.kp T.b__law_wide (fun σ => passAt (takes_of rfl rfl rfl rfl) σ) (pa_cons (pv 0) (pa_cons pe_int pa_nil))))
    (pss_cons (ps_set (i := 2) sc_law.nd rfl (Or.inl rfl) (pe_callS (ok__law_wide T) (hr.mono (by decide)) rfl T.m__law_wide T.F__law_wide.kp T.b__law_wide (fun σ => passAt (takes_of rfl rfl rfl rfl) σ) (pa_cons (pv 0) (pa_cons pe_int pa_nil))))
    (pss_cons (ps_cut (ps_if (pt_cmpR op_eq (pv 2) pe_int (nomark _)) (pss_one (ps_set (i := 2) sc_law.nd rfl (Or.inl rfl) (pe_op op_add pe_int (pe_op op_mod (pe_callTy call_int1 rfl T.z_int bt_int (pa_cons (pe_callS (ok__law_cell T) (hr.mono (by decide)) rfl T.m__law_cell T.F__law_cell.kp T.b__law_cell (fun σ => passAt (takes_of rfl rfl rfl rfl) σ) (pa_cons (pv 0) (pa_cons pe_int pa_nil))) pa_nil)) pe_int)))) pss_nil))
    (pss_cons (ps_cut (ps_if (pt_cmpR op_eq (pe_op op_mod (pe_callTy call_int1 rfl T.z_int bt_int (pa_cons (pe_callS (ok__law_cell T) (hr.mono (by decide)) rfl T.m__law_cell T.F__law_cell.kp T.b__law_cell (fun σ => passAt (takes_of rfl rfl rfl rfl) σ) (pa_cons (pv 0) (pa_cons pe_int pa_nil))) pa_nil)) pe_int) pe_int (nomark _)) (pss_cons (ps_set (i := 1) sc_law.nd rfl (Or.inl rfl) (pe_op op_mulB (pv 1) (pe_op op_add pe_int (pe_callB call_abs rfl T.z_abs bt_abs (pa_cons (pe_callS (ok__law_wide T) (hr.mono (by decide)) rfl T.m__law_wide T.F__law_wide.kp T.b__law_wide (fun σ => passAt (takes_of rfl rfl rfl rfl) σ) (pa_cons (pv 0) (pa_cons pe_int pa_nil))) pa_nil)))))
      (pss_one (ps_set (i := 2) sc_law.nd rfl (Or.inl rfl) (pe_op op_mulB (pv 2) (pe_op op_add pe_int (pe_callB call_abs rfl T.z_abs bt_abs (pa_cons (pe_callS (ok__law_wide T) (hr.mono (by decide)) rfl T.m__law_wide T.F__law_wide.kp T.b__law_wide (fun σ => passAt (takes_of rfl rfl rfl rfl) σ) (pa_cons (pv 0) (pa_cons pe_int pa_nil))) pa_nil))))))) pss_nil))
    (pss_cons (ps_cut (ps_if (pt_cmpR op_eq (pe_op op_mod (pe_callTy call_int1 rfl T.z_int bt_int (pa_cons (pe_callS (ok__law_cell T) (hr.mono (by decide)) rfl T.m__law_cell T.F__law_cell.kp T.b__law_cell (fun σ => passAt (takes_of rfl rfl rfl rfl) σ) (pa_cons (pv 0) (pa_cons pe_int pa_nil))) pa_nil)) pe_int) pe_int (nomark _)) (pss_one (ps_set (i := 1) sc_law.nd rfl (Or.inl rfl) pe_int)) pss_nil))
    (pss_cons (ps_set (i := 3) sc_law.nd rfl (Or.inl rfl) (pe_callSD (ok_ratio T) (hr.mono (by decide)) rfl T.m_ratio T.F_ratio.kp T.b2_ratio (fun σ => passAt (takes_of rfl rfl rfl rfl) σ) (pa_cons (pv 1) (pa_cons (pv 2) pa_nil))))
    (pss_cons (ps_if (PW.pt (pw_or (pt_not (pt_val (pe_callB call_is rfl T.z_isinstance bt_isinstance (pa_cons (pv 3) (pa_cons (pe_bltn (v := .ty "tuple") rfl T.z_tuple bt_tuple rfl) pa_nil))))) (pw_or1 (pt_cmpR op_ne (pe_callB call_ln rfl T.z_len bt_len (pa_cons (pv 3) pa_nil)) pe_int (nomark _))))) (pss_one (ps_ret pe_bl)) pss_nil)
    (pss_cons (ps_if (PW.pt (pw_or (pt_not (pt_val (pe_callS (ok__law_whole T) (hr.mono (by decide)) rfl T.m__law_whole T.F__law_whole.kp T.b__law_whole (fun σ => passAt (takes_of rfl rfl rfl rfl) σ) (pa_cons (pe_ix ix_tup (pv 3) pe_int (fun _ _ => rfl)) pa_nil)))) (pw_or1 (pt_not (pt_val (pe_callS (ok__law_whole T) (hr.mono (by decide)) rfl T.m__law_whole T.F__law_whole.kp T.b__law_whole (fun σ => passAt (takes_of rfl rfl rfl rfl) σ) (pa_cons (pe_ix ix_tup (pv 3) pe_int (fun _ _ => rfl)) pa_nil))))))) (pss_one (ps_ret pe_bl)) pss_nil)
    (pss_cons (ps_set (i := 4) sc_law.nd rfl (Or.inl rfl) (pe_callS (ok__law_lowest T) (hr.mono (by decide)) rfl T.m__law_lowest T.F__law_lowest.kp T.b__law_lowest (fun σ => passAt (takes_of rfl rfl rfl rfl) σ) (pa_cons (pv 1) (pa_cons (pv 2) pa_nil))))
    (pss_cons (ps_if (PW.pt (pw_or (pt_cmpR (op_neD hr.units) (pv 3) (pv 4) (nomark _)) (pw_or (pt_cmpR op_ne (pe_op op_mulB (pe_ix ix_tup (pv 3) pe_int (fun _ _ => rfl)) (pv 2)) (pe_op op_mulB (pe_ix ix_tup (pv 3) pe_int (fun _ _ => rfl)) (pv 1)) (nomark _)) (pw_or1 (pt_cmpR op_lt (pe_ix ix_tup (pv 3) pe_int (fun _ _ => rfl)) pe_int (nomark _)))))) (pss_one (ps_ret pe_bl)) pss_nil)
    (pss_cons (ps_set (i := 5) sc_law.nd rfl (Or.inl rfl) (pe_callTy call_strI rfl T.z_str bt_str (pa_cons (pe_ix ix_tup (pv 4) pe_int (fun _ _ => rfl)) pa_nil)))
    (pss_cons (ps_cut (ps_if (pt_cmpR op_ne (pe_ix ix_tup (pv 4) pe_int (fun _ _ => rfl)) pe_int (nomark _)) (pss_one (ps_set (i := 5) sc_law.nd rfl (Or.inl rfl) (pe_op op_addS (pe_op op_addS (pe_callTy call_strI rfl T.z_str bt_str (pa_cons (pe_ix ix_tup (pv 4) pe_int (fun _ _ => rfl)) pa_nil)) pe_str) (pe_callTy call_strI rfl T.z_str bt_str (pa_cons (pe_ix ix_tup (pv 4) pe_int (fun _ _ => rfl)) pa_nil))))) pss_nil))
    (pss_cons (ps_if (PW.pt (pw_or (pt_cmpR op_ne (pe_callS (ok_show_ratio T) (hr.mono (by decide)) rfl T.m_show_ratio T.F_show_ratio.kp T.b_show_ratio (fun σ => passAt (takes_of rfl rfl rfl rfl) σ) (pa_cons (pv 3) pa_nil)) (pv 5) (nomark _)) (pw_or1 (pt_not (pt_val (pe_callB call_is rfl T.z_isinstance bt_isinstance (pa_cons (pe_callS (ok_show_ratio T) (hr.mono (by decide)) rfl T.m_show_ratio T.F_show_ratio.kp T.b_show_ratio (fun σ => passAt (takes_of rfl rfl rfl rfl) σ) (pa_cons (pv 3) pa_nil)) (pa_cons (pe_bltn (v := .ty "str") rfl T.z_str bt_str rfl) pa_nil)))))))) (pss_one (ps_ret pe_bl)) pss_nil)
    (pss_cons (ps_set (i := 6) sc_law.nd rfl (Or.inl rfl) (pe_callSD (ok_ratio T) (hr.mono (by decide)) rfl T.m_ratio T.F_ratio.kp T.b1_ratio (fun σ => passAt (takes_of rfl rfl rfl rfl) σ) (pa_cons (pv 1) pa_nil)))
    (pss_cons (ps_if (PW.pt (pw_or (pt_cmpR (op_neD hr.units) (pv 6) (pe_tup (pa_cons (pv 1) (pa_cons pe_int pa_nil))) (nomark _)) (pw_or1 (pt_cmpR op_ne (pe_callS (ok_show_ratio T) (hr.mono (by decide)) rfl T.m_show_ratio T.F_show_ratio.kp T.b_show_ratio (fun σ => passAt (takes_of rfl rfl rfl rfl) σ) (pa_cons (pv 6) pa_nil)) (pe_callTy call_strI rfl T.z_str bt_str (pa_cons (pv 1) pa_nil)) (nomark _))))) (pss_one (ps_ret pe_bl)) pss_nil)
    (pss_cons (ps_set (i := 7) sc_law.nd rfl (Or.inl rfl) (pe_callS (ok__law_refused T) (hr.mono (by decide)) rfl T.m__law_refused T.F__law_refused.kp T.b__law_refused (fun σ => passAt (takes_of rfl rfl rfl rfl) σ) (pa_cons (pv 1) pa_nil)))
    (pss_one (ps_ret (pe_and (pe_cmpR op_eq (pv 7) pe_int (nomark _)) (pe_one (pe_callS (ok__law_whole T) (hr.mono (by decide)) rfl T.m__law_whole T.F__law_whole.kp T.b__law_whole (fun σ => passAt (takes_of rfl rfl rfl rfl) σ) (pa_cons (pv 7) pa_nil)))))))))))))))))))))), ?_⟩
    have pos : ∀ j, 0 < 1 + (if wide ns j < 0 then -wide ns j else wide ns j) := fun j => by split <;> omega
    have psz : ∀ j, Sz 210 (1 + (if wide ns j < 0 then -wide ns j else wide ns j)) := fun j => ((Sz.mk (n := 1) (i := 1) (by decide)).add (wide_sz ns j).absv).mono (by decide)
    have z0 : Sz 210 (wide ns 0) := (wide_sz ns 0).mono (by decide)
    have z1 : Sz 210 (wide ns 1) := (wide_sz ns 1).mono (by decide)
    walk_at "rd"
    refine ⟨fun σ' H' => Wall (H' = H ∧ ∃ b : Int, b ≠ 0 ∧ Sz 210 b ∧ σ' = [some (.ref l), some (.int (wide ns 0)), some (.int b), none, none, none, none, none]), ?_, ?_⟩
    · walk_at "rd"
      refine iteI (fun c => ?_) (fun c => ?_)
      · have m0 : 0 ≤ cell ns 2 % 97 := Int.emod_nonneg _ (by decide)
        have m1 : cell ns 2 % 97 < 97 := Int.emod_lt_of_pos _ (by decide)
        walk_at "rd"
        exact wall ⟨rfl, 1 + cell ns 2 % 97, by omega, (Sz.mk (n := 8) (by omega)).mono (by decide), rfl⟩
      · exact wall ⟨rfl, _, c, z1, rfl⟩
    rintro σ1 H1 ⟨k⟩
    obtain ⟨rfl, b, b0, zb, rfl⟩ := k trivial
    refine ⟨fun σ' H' => Wall (H' = H1 ∧ ∃ t b : Int, b ≠ 0 ∧ Sz 420 t ∧ Sz 420 b ∧ σ' = [some (.ref l), some (.int t), some (.int b), none, none, none, none, none]), ?_, ?_⟩
    · walk_at "rd"
      refine iteI (fun c => ?_) (fun c => ?_)
      · have c1 : CM (wide ns 0) (1 + (if wide ns 3 < 0 then -wide ns 3 else wide ns 3)) := CM.of (m := 210) (n := 210) z0 (psz 3)
        have c2 : CM b (1 + (if wide ns 3 < 0 then -wide ns 3 else wide ns 3)) := CM.of (m := 210) (n := 210) zb (psz 3)
        walk_at "rd"
        exact wall ⟨rfl, _, _, Int.mul_ne_zero b0 (by have := pos 3; omega), z0.mul (psz 3), zb.mul (psz 3), rfl⟩
      · exact wall ⟨rfl, _, _, b0, z0.mono (by decide), zb.mono (by decide), rfl⟩
    rintro σ1 H2 ⟨k⟩
    obtain ⟨rfl, t, b, b0, zt, zb, rfl⟩ := k trivial
    refine ⟨fun σ' H' => Wall (H' = H2 ∧ ∃ t : Int, Sz 420 t ∧ σ' = [some (.ref l), some (.int t), some (.int b), none, none, none, none, none]), ?_, ?_⟩
    · walk_at "rd"
      refine iteI (fun c => ?_) (fun c => ?_)
      · walk_at "rd"
        exact wall ⟨rfl, 0, Sz.zero _, rfl⟩
      · exact wall ⟨rfl, t, zt, rfl⟩
    rintro σ1 H3 ⟨k⟩
    obtain ⟨rfl, t, zt, rfl⟩ := k trivial
    obtain ⟨u, v, huv⟩ : ∃ u v, low t b = (u, v) := ⟨_, _, rfl⟩
    have hv := low_pos (t := t) b0
    have hlo := (low_is (t := t) b0).2
    have zu := low_sz1 (b := b) zt
    have zv := low_sz2 (t := t) zb
    rw [huv] at hv hlo zu zv
    have zu9 : Sz 1900 u := zu.mono (by decide)
    have zv9 : Sz 1900 v := zv.mono (by decide)
    walk_at "rd"
    unfold sp_ratio
    refine ⟨t, b, 420, rfl, fun z => (b0 z).elim, fun _ => ⟨zb, by decide, fun p1 H4 s1 n1 e1 => ?_⟩⟩
    rw [huv] at e1
    have P1 : SqT K H4 p1 [.int u, .int v] := t_of (K := K) e1
    have hs1 := same_lst s1 hs
    walk_at "rd"
    refine ⟨t, b, 420, rfl, zb, b0, by decide, fun p2 H5 s2 n2 e2 => ?_⟩
    rw [huv] at e2
    have P2 : SqT K H5 p2 [.int u, .int v] := t_of (K := K) e2
    have hs2 := same_lst s2 hs1
    have P1' := same_tup s2 P1
    walk_at "rd"
    refine neD_TT P1' P2 rfl rfl ?_
    walk_at "rd"
    refine iteIN (fun c => absurd (show u * b = v * t by rw [hlo, Int.mul_comm]) c) (fun _ => ?_)
    walk_at "rd"
    refine iteD (fun c => absurd (show v < 1 from c) (by omega)) (fun _ => ?_)
    walk_at "rd"
    refine strI_go (Nat.lt_of_le_of_lt zu9.log (by decide)) ?_
    walk_at "rd"
    have l3 : (Str.ofString "/").length = 1 := rfl
    have l1 := str_len1 zu9
    have l2 := str_len1 zv9
    refine ⟨fun σ' H' => Wall (Same H5 H' ∧ σ' = [some (.ref l), some (.int t), some (.int b), some (.ref p1), some (.ref p2), some (.str (shR u v)), none, none]), ?_, ?_⟩
    · walk_at "rd"
      refine iteIN (fun c => ?_) (fun c => ?_)
      · walk_at "rd"
        refine strI_go (Nat.lt_of_le_of_lt zu9.log (by decide)) ?_
        walk_at "rd"
        refine strI_go (Nat.lt_of_le_of_lt zv9.log (by decide)) ?_
        walk_at "rd"
        refine wall ⟨Same.refl _, ?_⟩
        unfold shR
        rw [if_neg c]
        rfl
      · refine wall ⟨Same.refl _, ?_⟩
        unfold shR
        rw [if_pos c]
        rfl
    rintro σ1 H6 ⟨k⟩
    obtain ⟨s3, rfl⟩ := k trivial
    have P3 := same_tup s3 P1'
    walk_at "rd"
    refine show_ratio_go P3 zu9 zv9 fun H7 s4 => ?_
    have P4 := same_tup s4 P3
    walk_at "rd"
    have dn : ∀ z : Str, (!decide (V.str z = V.str z)) = false := fun z => by simp
    rw [dn]
    walk_at "rd"
    refine show_ratio_go P4 zu9 zv9 fun H8 s5 => ?_
    walk_at "rd"
    refine ⟨t, 1, 1, rfl, fun z => (by cases z), fun _ => ⟨⟨by decide⟩, by decide, fun p3 H9 s6 n3 e3 => ?_⟩⟩
    rw [low_one] at e3
    have P5 : SqT K H9 p3 [.int t, .int 1] := t_of (K := K) e3
    walk_at "rd"
    rename_i p4 n4
    refine neD_TT (tup_upd n4 P5) (t_of upd_same) rfl rfl ?_
    walk_at "rd"
    refine show_ratio_go (tup_upd n4 P5) (zt.mono (by decide)) ⟨by decide⟩ fun H10 s7 => ?_
    walk_at "rd"
    refine strI_go (Nat.lt_of_le_of_lt zt.log (by decide)) ?_
    rw [show shR t 1 = Str.ofString (toString t) from if_pos rfl]
    walk_at "rd"
    rw [dn]
    walk_at "rd"
    refine _law_refused_go fun H11 s8 => ?_
    walk_at "rd"
    exact q _

end
theorem all_mk {w : World} {K : PySem.W.Frag} {h : Heap} {mg : Str → Option Value} {fa : Addr} (X : K.In h) (G : h.Ns mainGlobals mg) (hfa : mg "law" = some (.ref fa))
    {f_show_integer : Addr} {oc_show_integer kV_show_integer dc_show_integer pm_show_integer cd_show_integer ct_show_integer : Value} {od_show_integer an_show_integer : Option Addr} {sl_show_integer : Array (Option Value)}
    {f_ratio : Addr} {oc_ratio kV_ratio dc_ratio pm_ratio cd_ratio ct_ratio : Value} {od_ratio an_ratio : Option Addr} {sl_ratio : Array (Option Value)}
    {t_ratio : Addr} {odt_ratio : Option Addr} {its_ratio : Array Value} {nt_ratio : Nat} {slt_ratio : Array (Option Value)}
    {f_show_ratio : Addr} {oc_show_ratio kV_show_ratio dc_show_ratio pm_show_ratio cd_show_ratio ct_show_ratio : Value} {od_show_ratio an_show_ratio : Option Addr} {sl_show_ratio : Array (Option Value)}
    {f__law_cell : Addr} {oc__law_cell kV__law_cell dc__law_cell pm__law_cell cd__law_cell ct__law_cell : Value} {od__law_cell an__law_cell : Option Addr} {sl__law_cell : Array (Option Value)}
    {f__law_wide : Addr} {oc__law_wide kV__law_wide dc__law_wide pm__law_wide cd__law_wide ct__law_wide : Value} {od__law_wide an__law_wide : Option Addr} {sl__law_wide : Array (Option Value)}
    {f__law_whole : Addr} {oc__law_whole kV__law_whole dc__law_whole pm__law_whole cd__law_whole ct__law_whole : Value} {od__law_whole an__law_whole : Option Addr} {sl__law_whole : Array (Option Value)}
    {f__law_gcd : Addr} {oc__law_gcd kV__law_gcd dc__law_gcd pm__law_gcd cd__law_gcd ct__law_gcd : Value} {od__law_gcd an__law_gcd : Option Addr} {sl__law_gcd : Array (Option Value)}
    {f__law_lowest : Addr} {oc__law_lowest kV__law_lowest dc__law_lowest pm__law_lowest cd__law_lowest ct__law_lowest : Value} {od__law_lowest an__law_lowest : Option Addr} {sl__law_lowest : Array (Option Value)}
    {f__law_refused : Addr} {oc__law_refused kV__law_refused dc__law_refused pm__law_refused cd__law_refused ct__law_refused : Value} {od__law_refused an__law_refused : Option Addr} {sl__law_refused : Array (Option Value)}
    {f_law : Addr} {oc_law kV_law dc_law pm_law cd_law ct_law : Value} {od_law an_law : Option Addr} {sl_law : Array (Option Value)}
    {c_BookError : Addr}
    {c_OutOfRange : Addr}
    {fI_OutOfRange cc_OutOfRange cda_OutOfRange N_OutOfRange : Addr} {oc_OutOfRange doc_OutOfRange pm_OutOfRange ct_OutOfRange cl_OutOfRange ccl_OutOfRange : Value} {od_OutOfRange dd_OutOfRange cld_OutOfRange cdd_OutOfRange : Option Addr} {osl_OutOfRange csl_OutOfRange ccs_OutOfRange : Array (Option Value)} {nm_OutOfRange q_OutOfRange file_OutOfRange : Str} {bs_OutOfRange sub_OutOfRange : List Value} {sn_OutOfRange : List Str} {ab_OutOfRange : Bool} {col_OutOfRange : Option Bool} {m0_OutOfRange m1_OutOfRange m2_OutOfRange m3_OutOfRange m5_OutOfRange : Option Value} {vs_OutOfRange : Array Value} {tf_OutOfRange : Tok}
    {tk_LARGE : Tok}
    {tk_DIGITS : Tok}
    (a_show_integer : PySem.W.nsIn K mainGlobals "show_integer" = some (some (.ref f_show_integer)))
    (l_show_integer : K.lookup f_show_integer = some ⟨oc_show_integer, od_show_integer, .func (PySem.W.fnOf "show_integer" "show_integer" (defArgs s_show_integer) (defBody s_show_integer) (defScope s_show_integer) .none kV_show_integer dc_show_integer pm_show_integer an_show_integer cd_show_integer ct_show_integer), sl_show_integer⟩)
    (c_show_integer : PySem.W.codeIn K cd_show_integer "show_integer" = true)
    (k_show_integer : PySem.W.keepIn K (.ref f_show_integer) = true)
    (a_ratio : PySem.W.nsIn K mainGlobals "ratio" = some (some (.ref f_ratio)))
    (l_ratio : K.lookup f_ratio = some ⟨oc_ratio, od_ratio, .func (PySem.W.fnOf "ratio" "ratio" (defArgs s_ratio) (defBody s_ratio) (defScope s_ratio) (.ref t_ratio) kV_ratio dc_ratio pm_ratio an_ratio cd_ratio ct_ratio), sl_ratio⟩)
    (c_ratio : PySem.W.codeIn K cd_ratio "ratio" = true)
    (k_ratio : PySem.W.keepIn K (.ref f_ratio) = true)
    (lt_ratio : K.lookup t_ratio = some ⟨.type "tuple", odt_ratio, .seq its_ratio nt_ratio, slt_ratio⟩)
    (u_ratio : valsB [.int 1] its_ratio.toList = true)
    (a_show_ratio : PySem.W.nsIn K mainGlobals "show_ratio" = some (some (.ref f_show_ratio)))
    (l_show_ratio : K.lookup f_show_ratio = some ⟨oc_show_ratio, od_show_ratio, .func (PySem.W.fnOf "show_ratio" "show_ratio" (defArgs s_show_ratio) (defBody s_show_ratio) (defScope s_show_ratio) .none kV_show_ratio dc_show_ratio pm_show_ratio an_show_ratio cd_show_ratio ct_show_ratio), sl_show_ratio⟩)
    (c_show_ratio : PySem.W.codeIn K cd_show_ratio "show_ratio" = true)
    (k_show_ratio : PySem.W.keepIn K (.ref f_show_ratio) = true)
    (a__law_cell : PySem.W.nsIn K mainGlobals "_law_cell" = some (some (.ref f__law_cell)))
    (l__law_cell : K.lookup f__law_cell = some ⟨oc__law_cell, od__law_cell, .func (PySem.W.fnOf "_law_cell" "_law_cell" (defArgs s__law_cell) (defBody s__law_cell) (defScope s__law_cell) .none kV__law_cell dc__law_cell pm__law_cell an__law_cell cd__law_cell ct__law_cell), sl__law_cell⟩)
    (c__law_cell : PySem.W.codeIn K cd__law_cell "_law_cell" = true)
    (k__law_cell : PySem.W.keepIn K (.ref f__law_cell) = true)
    (a__law_wide : PySem.W.nsIn K mainGlobals "_law_wide" = some (some (.ref f__law_wide)))
    (l__law_wide : K.lookup f__law_wide = some ⟨oc__law_wide, od__law_wide, .func (PySem.W.fnOf "_law_wide" "_law_wide" (defArgs s__law_wide) (defBody s__law_wide) (defScope s__law_wide) .none kV__law_wide dc__law_wide pm__law_wide an__law_wide cd__law_wide ct__law_wide), sl__law_wide⟩)
    (c__law_wide : PySem.W.codeIn K cd__law_wide "_law_wide" = true)
    (k__law_wide : PySem.W.keepIn K (.ref f__law_wide) = true)
    (a__law_whole : PySem.W.nsIn K mainGlobals "_law_whole" = some (some (.ref f__law_whole)))
    (l__law_whole : K.lookup f__law_whole = some ⟨oc__law_whole, od__law_whole, .func (PySem.W.fnOf "_law_whole" "_law_whole" (defArgs s__law_whole) (defBody s__law_whole) (defScope s__law_whole) .none kV__law_whole dc__law_whole pm__law_whole an__law_whole cd__law_whole ct__law_whole), sl__law_whole⟩)
    (c__law_whole : PySem.W.codeIn K cd__law_whole "_law_whole" = true)
    (k__law_whole : PySem.W.keepIn K (.ref f__law_whole) = true)
    (a__law_gcd : PySem.W.nsIn K mainGlobals "_law_gcd" = some (some (.ref f__law_gcd)))
    (l__law_gcd : K.lookup f__law_gcd = some ⟨oc__law_gcd, od__law_gcd, .func (PySem.W.fnOf "_law_gcd" "_law_gcd" (defArgs s__law_gcd) (defBody s__law_gcd) (defScope s__law_gcd) .none kV__law_gcd dc__law_gcd pm__law_gcd an__law_gcd cd__law_gcd ct__law_gcd), sl__law_gcd⟩)
    (c__law_gcd : PySem.W.codeIn K cd__law_gcd "_law_gcd" = true)
    (k__law_gcd : PySem.W.keepIn K (.ref f__law_gcd) = true)
    (a__law_lowest : PySem.W.nsIn K mainGlobals "_law_lowest" = some (some (.ref f__law_lowest)))
    (l__law_lowest : K.lookup f__law_lowest = some ⟨oc__law_lowest, od__law_lowest, .func (PySem.W.fnOf "_law_lowest" "_law_lowest" (defArgs s__law_lowest) (defBody s__law_lowest) (defScope s__law_lowest) .none kV__law_lowest dc__law_lowest pm__law_lowest an__law_lowest cd__law_lowest ct__law_lowest), sl__law_lowest⟩)
    (c__law_lowest : PySem.W.codeIn K cd__law_lowest "_law_lowest" = true)
    (k__law_lowest : PySem.W.keepIn K (.ref f__law_lowest) = true)
    (a__law_refused : PySem.W.nsIn K mainGlobals "_law_refused" = some (some (.ref f__law_refused)))
    (l__law_refused : K.lookup f__law_refused = some ⟨oc__law_refused, od__law_refused, .func (PySem.W.fnOf "_law_refused" "_law_refused" (defArgs s__law_refused) (defBody s__law_refused) (defScope s__law_refused) .none kV__law_refused dc__law_refused pm__law_refused an__law_refused cd__law_refused ct__law_refused), sl__law_refused⟩)
    (c__law_refused : PySem.W.codeIn K cd__law_refused "_law_refused" = true)
    (k__law_refused : PySem.W.keepIn K (.ref f__law_refused) = true)
    (a_law : PySem.W.nsIn K mainGlobals "law" = some (some (.ref f_law)))
    (l_law : K.lookup f_law = some ⟨oc_law, od_law, .func (PySem.W.fnOf "law" "law" (defArgs s_law) (defBody s_law) (defScope s_law) .none kV_law dc_law pm_law an_law cd_law ct_law), sl_law⟩)
    (c_law : PySem.W.codeIn K cd_law "law" = true)
    (k_law : PySem.W.keepIn K (.ref f_law) = true)
    (third : PySem.W.nsIn K cStatics "thirdparty.any" = some none)
    (zsuper : PySem.W.nsIn K mainGlobals "super" = some none)
    (spc : PySem.W.specialIn K (.builtin "object.__class__") "__get__" = some (some (.builtin "getset_descriptor.__get__")))
    (tkc : PySem.W.takesIn K (.builtin "object.__class__") = some true)
    (a_BookError : PySem.W.nsIn K mainGlobals "BookError" = some (some (.ref c_BookError)))
    (ga_BookError : PySem.W.findIn K (.ref c_BookError) "__getattribute__" = some (some (.builtin "BaseException.__getattribute__")))
    (gg_BookError : PySem.W.findIn K (.ref c_BookError) "__getattr__" = some none)
    (sb_BookError : PySem.W.subIn K (.ref c_BookError) (.type "BaseException") = some true)
    (hd_BookError : PySem.W.hasDictIn K c_BookError = true)
    (ha_BookError : PySem.W.findIn K (.ref c_BookError) "__class__" = some (some (.builtin "object.__class__")))
    (hm_BookError : PySem.W.mroIn K c_BookError (.type "object") = some true)
    (ty_BookError : PySem.W.typeIn K (.ref c_BookError) = some (.type "type"))
    (se_BookError : PySem.W.mroIn K c_BookError (.ref c_BookError) = some true)
    (a_OutOfRange : PySem.W.nsIn K mainGlobals "OutOfRange" = some (some (.ref c_OutOfRange)))
    (ga_OutOfRange : PySem.W.findIn K (.ref c_OutOfRange) "__getattribute__" = some (some (.builtin "BaseException.__getattribute__")))
    (gg_OutOfRange : PySem.W.findIn K (.ref c_OutOfRange) "__getattr__" = some none)
    (sb_OutOfRange : PySem.W.subIn K (.ref c_OutOfRange) (.type "BaseException") = some true)
    (hd_OutOfRange : PySem.W.hasDictIn K c_OutOfRange = true)
    (ha_OutOfRange : PySem.W.findIn K (.ref c_OutOfRange) "__class__" = some (some (.builtin "object.__class__")))
    (hm_OutOfRange : PySem.W.mroIn K c_OutOfRange (.type "object") = some true)
    (ty_OutOfRange : PySem.W.typeIn K (.ref c_OutOfRange) = some (.type "type"))
    (se_OutOfRange : PySem.W.mroIn K c_OutOfRange (.ref c_OutOfRange) = some true)
    (xL_OutOfRange : K.lookup c_OutOfRange = some (excClassObj nm_OutOfRange q_OutOfRange c_OutOfRange N_OutOfRange bs_OutOfRange [.ref c_BookError, .type "ValueError", .type "Exception", .type "BaseException", .type "object"] true sn_OutOfRange sub_OutOfRange ab_OutOfRange col_OutOfRange dd_OutOfRange m0_OutOfRange m1_OutOfRange m2_OutOfRange m3_OutOfRange m5_OutOfRange "ValueError.__new__"))
    (sa_OutOfRange : PySem.W.findIn K (.ref c_OutOfRange) "__setattr__" = some (some (.builtin "object.__setattr__")))
    (kp_OutOfRange : PySem.W.keepIn K (.ref c_OutOfRange) = true)
    (i_OutOfRange : PySem.W.findIn K (.ref c_OutOfRange) "__init__" = some (some (.ref fI_OutOfRange)))
    (ti_OutOfRange : PySem.W.typeIn K (.ref fI_OutOfRange) = some (.type "function"))
    (li_OutOfRange : K.lookup fI_OutOfRange = some ⟨oc_OutOfRange, od_OutOfRange, .func ((⟨"__init__", "OutOfRange.__init__", defArgs s_OutOfRange, defBody s_OutOfRange, defScope s_OutOfRange, [(("__class__" : Str), cc_OutOfRange)], cda_OutOfRange⟩ : NdefX.NF).fd doc_OutOfRange pm_OutOfRange ct_OutOfRange), osl_OutOfRange⟩)
    (ci_OutOfRange : PySem.W.codeIn K (.ref cda_OutOfRange) "OutOfRange.__init__" = true)
    (ce_OutOfRange : K.lookup cc_OutOfRange = some ⟨cl_OutOfRange, cld_OutOfRange, .cell (some (.ref c_OutOfRange)), csl_OutOfRange⟩)
    (co_OutOfRange : K.lookup cda_OutOfRange = some ⟨ccl_OutOfRange, cdd_OutOfRange, .fields vs_OutOfRange, ccs_OutOfRange⟩)
    (vs_OutOfRange : vs_OutOfRange[2]? = some (.str file_OutOfRange tf_OutOfRange))
    (fi_OutOfRange : ((P.main.file : Str) == file_OutOfRange) = true)
    (su_OutOfRange : PySem.W.ks_superIn K c_OutOfRange c_OutOfRange "__init__" = some (some (.builtin "ValueError.__init__")))
    (ve_OutOfRange : PySem.W.subIn K (.ref c_OutOfRange) (.type "ValueError") = some true)
    (n_OutOfRange_label : PySem.W.findIn K (.ref c_OutOfRange) "label" = some none)
    (n_OutOfRange_value : PySem.W.findIn K (.ref c_OutOfRange) "value" = some none)
    (y_BookError_BookError : PySem.W.subIn K (.ref c_BookError) (.ref c_BookError) = some true)
    (y_BookError_OutOfRange : PySem.W.subIn K (.ref c_BookError) (.ref c_OutOfRange) = some false)
    (yv_BookError : PySem.W.subIn K (.ref c_BookError) (.type "ValueError") = some true)
    (y_OutOfRange_BookError : PySem.W.subIn K (.ref c_OutOfRange) (.ref c_BookError) = some true)
    (y_OutOfRange_OutOfRange : PySem.W.subIn K (.ref c_OutOfRange) (.ref c_OutOfRange) = some true)
    (yv_OutOfRange : PySem.W.subIn K (.ref c_OutOfRange) (.type "ValueError") = some true)
    (a_LARGE : PySem.W.nsIn K mainGlobals "LARGE" = some (some (.int 1000000000000000000 tk_LARGE)))
    (a_DIGITS : PySem.W.nsIn K mainGlobals "DIGITS" = some (some (.int 18 tk_DIGITS)))
    (a_gcd : PySem.W.nsIn K mainGlobals "gcd" = some (some (.builtin "math.gcd")))
    (z_str : PySem.W.nsIn K mainGlobals "str" = some none)
    (z_divmod : PySem.W.nsIn K mainGlobals "divmod" = some none)
    (z_len : PySem.W.nsIn K mainGlobals "len" = some none)
    (z_int : PySem.W.nsIn K mainGlobals "int" = some none)
    (z_isinstance : PySem.W.nsIn K mainGlobals "isinstance" = some none)
    (z_bool : PySem.W.nsIn K mainGlobals "bool" = some none)
    (z_abs : PySem.W.nsIn K mainGlobals "abs" = some none)
    (z_range : PySem.W.nsIn K mainGlobals "range" = some none)
    (z_tuple : PySem.W.nsIn K mainGlobals "tuple" = some none)
    : ∃ fd : FuncData, (∀ (s : Shared) (u : Value), BindsTo s fd ⟨[u], []⟩ [("script", u)]) ∧ ∀ base : Heap, K.In base → base.Ns mainGlobals mg → FnOk P w K mg base (L2.CX P w) 6 fa fd ["script"] (sp_law K) := by
  let T : Txt K mg := {
    a_show_integer := f_show_integer, fd_show_integer := _, F_show_integer := fun_of l_show_integer c_show_integer k_show_integer, m_show_integer := PySem.W.mg_of X G a_show_integer, b_show_integer := (fun_of l_show_integer c_show_integer k_show_integer).bindsN fun _ _ _ _ _ _ us hl => match us, hl with | [_], _ => rfl,
    a_ratio := f_ratio, fd_ratio := _, F_ratio := (fun_ofD l_ratio c_ratio k_ratio lt_ratio u_ratio), m_ratio := PySem.W.mg_of X G a_ratio, b1_ratio := (fun_ofD l_ratio c_ratio k_ratio lt_ratio u_ratio).binds1 1 0 (by intro z; cases z) rfl fun _ _ _ _ _ _ _ us its hu hi => match us, hu, its, hi with | [_], _, [_], _ => ⟨_, rfl, rfl⟩, b2_ratio := (fun_ofD l_ratio c_ratio k_ratio lt_ratio u_ratio).binds1 2 1 (by intro z; cases z) rfl fun _ _ _ _ _ _ _ us its hu hi => match us, hu, its, hi with | [_, _], _, [_], _ => ⟨_, rfl, rfl⟩,
    a_show_ratio := f_show_ratio, fd_show_ratio := _, F_show_ratio := fun_of l_show_ratio c_show_ratio k_show_ratio, m_show_ratio := PySem.W.mg_of X G a_show_ratio, b_show_ratio := (fun_of l_show_ratio c_show_ratio k_show_ratio).bindsN fun _ _ _ _ _ _ us hl => match us, hl with | [_], _ => rfl,
    a__law_cell := f__law_cell, fd__law_cell := _, F__law_cell := fun_of l__law_cell c__law_cell k__law_cell, m__law_cell := PySem.W.mg_of X G a__law_cell, b__law_cell := (fun_of l__law_cell c__law_cell k__law_cell).bindsN fun _ _ _ _ _ _ us hl => match us, hl with | [_, _], _ => rfl,
    a__law_wide := f__law_wide, fd__law_wide := _, F__law_wide := fun_of l__law_wide c__law_wide k__law_wide, m__law_wide := PySem.W.mg_of X G a__law_wide, b__law_wide := (fun_of l__law_wide c__law_wide k__law_wide).bindsN fun _ _ _ _ _ _ us hl => match us, hl with | [_, _], _ => rfl,
    a__law_whole := f__law_whole, fd__law_whole := _, F__law_whole := fun_of l__law_whole c__law_whole k__law_whole, m__law_whole := PySem.W.mg_of X G a__law_whole, b__law_whole := (fun_of l__law_whole c__law_whole k__law_whole).bindsN fun _ _ _ _ _ _ us hl => match us, hl with | [_], _ => rfl,
    a__law_gcd := f__law_gcd, fd__law_gcd := _, F__law_gcd := fun_of l__law_gcd c__law_gcd k__law_gcd, m__law_gcd := PySem.W.mg_of X G a__law_gcd, b__law_gcd := (fun_of l__law_gcd c__law_gcd k__law_gcd).bindsN fun _ _ _ _ _ _ us hl => match us, hl with | [_, _], _ => rfl,
    a__law_lowest := f__law_lowest, fd__law_lowest := _, F__law_lowest := fun_of l__law_lowest c__law_lowest k__law_lowest, m__law_lowest := PySem.W.mg_of X G a__law_lowest, b__law_lowest := (fun_of l__law_lowest c__law_lowest k__law_lowest).bindsN fun _ _ _ _ _ _ us hl => match us, hl with | [_, _], _ => rfl,
    a__law_refused := f__law_refused, fd__law_refused := _, F__law_refused := fun_of l__law_refused c__law_refused k__law_refused, m__law_refused := PySem.W.mg_of X G a__law_refused, b__law_refused := (fun_of l__law_refused c__law_refused k__law_refused).bindsN fun _ _ _ _ _ _ us hl => match us, hl with | [_], _ => rfl,
    a_law := f_law, fd_law := _, F_law := fun_of l_law c_law k_law, m_law := PySem.W.mg_of X G a_law, b_law := (fun_of l_law c_law k_law).bindsN fun _ _ _ _ _ _ us hl => match us, hl with | [_], _ => rfl,
    c_BookError := c_BookError, m_BookError := PySem.W.mg_of X G a_BookError, e_BookError := ⟨⟨ga_BookError, gg_BookError, sb_BookError, hd_BookError, ha_BookError, spc, tkc, hm_BookError⟩, ty_BookError, se_BookError⟩,
    c_OutOfRange := c_OutOfRange, m_OutOfRange := PySem.W.mg_of X G a_OutOfRange, e_OutOfRange := ⟨⟨ga_OutOfRange, gg_OutOfRange, sb_OutOfRange, hd_OutOfRange, ha_OutOfRange, spc, tkc, hm_OutOfRange⟩, ty_OutOfRange, se_OutOfRange⟩,
    x_OutOfRange := ⟨fI_OutOfRange, cc_OutOfRange, cda_OutOfRange, _, _, _, _, _, _, ⟨⟨⟨nm_OutOfRange, q_OutOfRange, N_OutOfRange, bs_OutOfRange, _, sn_OutOfRange, sub_OutOfRange, ab_OutOfRange, col_OutOfRange, dd_OutOfRange, m0_OutOfRange, m1_OutOfRange, m2_OutOfRange, m3_OutOfRange, m5_OutOfRange, xL_OutOfRange, rfl⟩, sa_OutOfRange, sb_OutOfRange, ty_OutOfRange, kp_OutOfRange⟩, i_OutOfRange, ti_OutOfRange, ⟨_, _, _, ce_OutOfRange⟩, ⟨_, _, _, _, _, _, co_OutOfRange, vs_OutOfRange, fi_OutOfRange⟩, by decide +kernel, PySem.W.mg_none_of X G zsuper, se_OutOfRange, third, su_OutOfRange, ve_OutOfRange⟩, li_OutOfRange, ci_OutOfRange⟩,
    n_OutOfRange_label := n_OutOfRange_label,
    n_OutOfRange_value := n_OutOfRange_value,
    y_BookError_BookError := y_BookError_BookError,
    y_BookError_OutOfRange := y_BookError_OutOfRange,
    yv_BookError := yv_BookError,
    y_OutOfRange_BookError := y_OutOfRange_BookError,
    y_OutOfRange_OutOfRange := y_OutOfRange_OutOfRange,
    yv_OutOfRange := yv_OutOfRange,
    m_LARGE := ⟨_, PySem.W.mg_of X G a_LARGE⟩,
    m_DIGITS := ⟨_, PySem.W.mg_of X G a_DIGITS⟩,
    m_gcd := PySem.W.mg_of X G a_gcd,
    z_str := PySem.W.mg_none_of X G z_str,
    z_divmod := PySem.W.mg_none_of X G z_divmod,
    z_len := PySem.W.mg_none_of X G z_len,
    z_int := PySem.W.mg_none_of X G z_int,
    z_isinstance := PySem.W.mg_none_of X G z_isinstance,
    z_bool := PySem.W.mg_none_of X G z_bool,
    z_abs := PySem.W.mg_none_of X G z_abs,
    z_range := PySem.W.mg_none_of X G z_range,
    z_tuple := PySem.W.mg_none_of X G z_tuple }
  have e := hfa.symm.trans T.m_law
  cases e
  exact ⟨_, fun s u => T.F_law.bindsA (ps := ["script"]) (fun _ _ _ _ _ _ us hl => match us, hl with | [_], _ => rfl) s [u] rfl, fun base _ _ => (ok_law T).mono (by decide)⟩
end My
open PySem PySem.W PyProof.Rows
set_option maxRecDepth 100000 in
set_option maxHeartbeats 0 in
theorem PySem.Challenge.cw_lendbook_k04_ratios_in_lowest_terms_holds : PySem.Challenge.rw_lendbook_k04_ratios_in_lowest_terms.Holds := by
  w_on; o_law; k_head; (case hw => w_witness2)
  k_fill
  refine LB.walk (l := PySem.Challenge.rw_lendbook_k04_ratios_in_lowest_terms) (k := 6) rfl rfl ⟨rfl, by decide, by decide⟩ (fun w h Y => PySem.W.kIn_of Y) ?F
  case F =>
    intro w mg fa h KX G hmg
    refine' My.all_mk KX G hmg ?a_show_integer ?l_show_integer ?c_show_integer ?k_show_integer ?a_ratio ?l_ratio ?c_ratio ?k_ratio ?lt_ratio ?u_ratio ?a_show_ratio ?l_show_ratio ?c_show_ratio ?k_show_ratio ?a__law_cell ?l__law_cell ?c__law_cell ?k__law_cell ?a__law_wide ?l__law_wide ?c__law_wide ?k__law_wide ?a__law_whole ?l__law_whole ?c__law_whole ?k__law_whole ?a__law_gcd ?l__law_gcd ?c__law_gcd ?k__law_gcd ?a__law_lowest ?l__law_lowest ?c__law_lowest ?k__law_lowest ?a__law_refused ?l__law_refused ?c__law_refused ?k__law_refused ?a_law ?l_law ?c_law ?k_law ?third ?zsuper ?spc ?tkc ?a_BookError ?ga_BookError ?gg_BookError ?sb_BookError ?hd_BookError ?ha_BookError ?hm_BookError ?ty_BookError ?se_BookError ?a_OutOfRange ?ga_OutOfRange ?gg_OutOfRange ?sb_OutOfRange ?hd_OutOfRange ?ha_OutOfRange ?hm_OutOfRange ?ty_OutOfRange ?se_OutOfRange ?xL_OutOfRange ?sa_OutOfRange ?kp_OutOfRange ?i_OutOfRange ?ti_OutOfRange ?li_OutOfRange ?ci_OutOfRange ?ce_OutOfRange ?co_OutOfRange ?vs_OutOfRange ?fi_OutOfRange ?su_OutOfRange ?ve_OutOfRange ?n_OutOfRange_label ?n_OutOfRange_value ?y_BookError_BookError ?y_BookError_OutOfRange ?yv_BookError ?y_OutOfRange_BookError ?y_OutOfRange_OutOfRange ?yv_OutOfRange ?a_LARGE ?a_DIGITS ?a_gcd ?z_str ?z_divmod ?z_len ?z_int ?z_isinstance ?z_bool ?z_abs ?z_range ?z_tuple
    (case a_show_integer => k_is)
    (case l_show_integer => k_is)
    (case c_show_integer => k_is)
    (case k_show_integer => k_is)
    (case a_ratio => k_is)
    (case l_ratio => k_is)
    (case c_ratio => k_is)
    (case k_ratio => k_is)
    (case lt_ratio => k_is)
    (case u_ratio => decide +kernel)
    (case a_show_ratio => k_is)
    (case l_show_ratio => k_is)
    (case c_show_ratio => k_is)
    (case k_show_ratio => k_is)
    (case a__law_cell => k_is)
    (case l__law_cell => k_is)
    (case c__law_cell => k_is)
    (case k__law_cell => k_is)
    (case a__law_wide => k_is)
    (case l__law_wide => k_is)
    (case c__law_wide => k_is)
    (case k__law_wide => k_is)
    (case a__law_whole => k_is)
    (case l__law_whole => k_is)
    (case c__law_whole => k_is)
    (case k__law_whole => k_is)
    (case a__law_gcd => k_is)
    (case l__law_gcd => k_is)
    (case c__law_gcd => k_is)
    (case k__law_gcd => k_is)
    (case a__law_lowest => k_is)
    (case l__law_lowest => k_is)
    (case c__law_lowest => k_is)
    (case k__law_lowest => k_is)
    (case a__law_refused => k_is)
    (case l__law_refused => k_is)
    (case c__law_refused => k_is)
    (case k__law_refused => k_is)
    (case a_law => k_is)
    (case l_law => k_is)
    (case c_law => k_is)
    (case k_law => k_is)
    (case third => k_is)
    (case zsuper => k_is)
    (case spc => k_is)
    (case tkc => k_is)
    (case a_BookError => k_is)
    (case ga_BookError => k_is)
    (case gg_BookError => k_is)
    (case sb_BookError => k_is)
    (case hd_BookError => k_is)
    (case ha_BookError => k_is)
    (case hm_BookError => k_is)
    (case ty_BookError => k_is)
    (case se_BookError => k_is)
    (case a_OutOfRange => k_is)
    (case ga_OutOfRange => k_is)
    (case gg_OutOfRange => k_is)
    (case sb_OutOfRange => k_is)
    (case hd_OutOfRange => k_is)
    (case ha_OutOfRange => k_is)
    (case hm_OutOfRange => k_is)
    (case ty_OutOfRange => k_is)
    (case se_OutOfRange => k_is)
    (case xL_OutOfRange => k_is)
    (case sa_OutOfRange => k_is)
    (case kp_OutOfRange => k_is)
    (case i_OutOfRange => k_is)
    (case ti_OutOfRange => k_is)
    (case li_OutOfRange => k_is)
    (case ci_OutOfRange => k_is)
    (case ce_OutOfRange => k_is)
    (case co_OutOfRange => k_is)
    (case vs_OutOfRange => rfl)
    (case fi_OutOfRange => decide +kernel)
    (case su_OutOfRange => ks_is)
    (case ve_OutOfRange => k_is)
    (case n_OutOfRange_label => k_is)
    (case n_OutOfRange_value => k_is)
    (case y_BookError_BookError => k_is)
    (case y_BookError_OutOfRange => k_is)
    (case yv_BookError => k_is)
    (case y_OutOfRange_BookError => k_is)
    (case y_OutOfRange_OutOfRange => k_is)
    (case yv_OutOfRange => k_is)
    (case a_LARGE => k_is)
    (case a_DIGITS => k_is)
    (case a_gcd => k_is)
    (case z_str => k_is)
    (case z_divmod => k_is)
    (case z_len => k_is)
    (case z_int => k_is)
    (case z_isinstance => k_is)
    (case z_bool => k_is)
    (case z_abs => k_is)
    (case z_range => k_is)
    (case z_tuple => k_is)
