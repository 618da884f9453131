import PyProof.Rows.All
import Wide.All
import OpenK.AllK
import Wide.FinOn
import HandS.ForExc
import HandS.Comp
import HandS.Defaults
import HandS.IsInst
import HandS.Wide
import HandS.EndBits
import HandS.TryMany
import HandS.ExcField
import HandS.ExcInit
import HandS.Evl
import HandS.Gcd
import HandS.Walk
import HandS.Zip
import PySem.Challenge.RW_lendbook_k75_comparisons_are_judged
set_option Elab.async false
set_option linter.all false
set_option maxRecDepth 100000
set_option maxHeartbeats 4000000
/-! own small rules over the hand layer -/
namespace LB
open PySem PySem.Spec PyProof.Rows L2
theorem bt_int : bootBuiltins "int" = some (.type "int") := by decide +kernel
theorem bt_bool : bootBuiltins "bool" = some (.type "bool") := by decide +kernel
theorem bt_str : bootBuiltins "str" = some (.type "str") := by decide +kernel
theorem bt_list : bootBuiltins "list" = some (.type "list") := by decide +kernel
theorem bt_tuple : bootBuiltins "tuple" = some (.type "tuple") := by decide +kernel
theorem bt_dict : bootBuiltins "dict" = some (.type "dict") := by decide +kernel
theorem bt_set : bootBuiltins "set" = some (.type "set") := by decide +kernel
theorem bt_range : bootBuiltins "range" = some (.type "range") := by decide +kernel
theorem bt_len : bootBuiltins "len" = some (.builtin "len") := by decide +kernel
theorem bt_abs : bootBuiltins "abs" = some (.builtin "abs") := by decide +kernel
theorem bt_isinstance : bootBuiltins "isinstance" = some (.builtin "isinstance") := by decide +kernel
theorem bt_sum : bootBuiltins "sum" = some (.builtin "sum") := by decide +kernel
theorem bt_min : bootBuiltins "min" = some (.builtin "min") := by decide +kernel
theorem bt_max : bootBuiltins "max" = some (.builtin "max") := by decide +kernel
theorem bt_sorted : bootBuiltins "sorted" = some (.builtin "sorted") := by decide +kernel
theorem bt_divmod : bootBuiltins "divmod" = some (.builtin "divmod") := by decide +kernel
theorem bt_any : bootBuiltins "any" = some (.builtin "any") := by decide +kernel
theorem bt_ValueError : bootBuiltins "ValueError" = some (.type "ValueError") := by decide +kernel
theorem bt_all : bootBuiltins "all" = some (.builtin "all") := by decide +kernel

/-! ### sizes of ints: i lies within n bits -/
structure Sz (n : Nat) (i : Int) : Prop where
  lt : i.natAbs < 2 ^ n
theorem Sz.log {n : Nat} {i : Int} (h : Sz n i) : i.natAbs.log2 ≤ n := by
  by_cases h0 : i.natAbs = 0
  · rw [h0]; exact Nat.zero_le _
  · exact Nat.le_of_lt ((Nat.log2_lt h0).mpr h.lt)
theorem Sz.zero (n : Nat) : Sz n 0 := ⟨Nat.pow_pos (by decide)⟩
theorem Sz.mono {m n : Nat} {i : Int} (h : Sz m i) (l : m ≤ n) : Sz n i := ⟨Nat.lt_of_lt_of_le h.lt (Nat.pow_le_pow_right (by decide) l)⟩
theorem Sz.add {m n : Nat} {i j : Int} (a : Sz m i) (b : Sz n j) : Sz (m + n + 1) (i + j) := by
  refine ⟨Nat.lt_of_le_of_lt (Int.natAbs_add_le i j) ?_⟩
  have h1 := (a.mono (Nat.le_add_right m n)).lt
  have h2 := (b.mono (Nat.le_add_left n m)).lt
  rw [Nat.pow_succ]
  omega
theorem Sz.neg {n : Nat} {i : Int} (a : Sz n i) : Sz n (-i) := ⟨by rw [Int.natAbs_neg]; exact a.lt⟩
theorem Sz.sub {m n : Nat} {i j : Int} (a : Sz m i) (b : Sz n j) : Sz (m + n + 1) (i - j) := by
  rw [Int.sub_eq_add_neg]
  exact a.add b.neg
theorem Sz.mul {m n : Nat} {i j : Int} (a : Sz m i) (b : Sz n j) : Sz (m + n) (i * j) := by
  refine ⟨?_⟩
  rw [Int.natAbs_mul, Nat.pow_add]
  exact Nat.mul_lt_mul'' a.lt b.lt
theorem Sz.le {n : Nat} {i j : Int} (a : Sz n j) (h : i.natAbs ≤ j.natAbs) : Sz n i := ⟨Nat.lt_of_le_of_lt h a.lt⟩
theorem Sz.div {n : Nat} {i j : Int} (a : Sz n i) : Sz n (i / j) := a.le (Int.natAbs_ediv_le_natAbs i j)
theorem Sz.mod {n : Nat} {i j : Int} (b : Sz n j) (h : 0 < j) : Sz n (i % j) := b.le (by
  have h1 := Int.emod_nonneg i (b := j) (by omega)
  have h2 := Int.emod_lt_of_pos i h
  omega)
theorem Sz.nn {n : Nat} {i j : Int} (b : Sz n j) (h0 : 0 ≤ i) (h : i ≤ j) : Sz n i := b.le (by omega)
theorem Sz.absv {n : Nat} {i : Int} (a : Sz n i) : Sz n (if i < 0 then -i else i) := by
  by_cases h : i < 0
  · rw [if_pos h]; exact a.neg
  · rw [if_neg h]; exact a
theorem Sz.bits {z : Int} {n : Nat} (h : Builtin.Int.intBits z ≤ n) : Sz n z := by
  refine ⟨?_⟩
  unfold Builtin.Int.intBits at h
  by_cases h0 : z = 0
  · subst h0
    exact Nat.pos_of_ne_zero (by simp)
  · have h1 : ¬ z.natAbs = 0 := by omega
    have h2 : z.natAbs.log2 + 1 ≤ n := by
      split at h
      · rename_i e
        first
          | exact absurd (by simpa using e) h0
          | omega
      · exact h
    exact (Nat.log2_lt h1).mp (by omega)

/-! ### products and quotients of any size -/
/-- a product that fits -/
def CM (i j : Int) : Prop := i.natAbs.log2 + j.natAbs.log2 < 134000000
theorem CM.ok {i j : Int} (h : CM i j) : IntMulOk i j := by
  have b : ∀ x : Int, Builtin.Int.intBits x ≤ x.natAbs.log2 + 1 := fun x => by
    unfold Builtin.Int.intBits
    split <;> omega
  have h1 := b i
  have h2 := b j
  have h3 : i.natAbs.log2 + j.natAbs.log2 < 134000000 := h
  have e := bitsLine_eq
  intro z
  have z2 := (Bool.and_eq_true_iff.mp z).2
  unfold Builtin.Int.intTooBig at z2
  have z3 := of_decide_eq_true z2
  rw [e] at z3
  omega
theorem CM.of {m n : Nat} {i j : Int} (a : Sz m i) (b : Sz n j) (h : m + n < 134000000 := by decide) : CM i j := by
  have h1 := a.log
  have h2 := b.log
  unfold CM
  omega
/-- a positive divisor of less than 9000 bits -/
def CD (_ j : Int) : Prop := 0 < j ∧ j.natAbs.log2 < 9000
theorem CD.of {n : Nat} {i j : Int} (h : 0 < j) (b : Sz n j) (hn : n < 9000 := by decide) : CD i j := ⟨h, Nat.lt_of_le_of_lt b.log hn⟩
theorem CM.of2 {m n : Nat} {i j : Int} (a : Sz m i) (b : Sz n j) (h : m + n < 134000000) : CM i j := CM.of a b h
theorem CD.of2 {n : Nat} {i j : Int} (b : Sz n j) (h : 0 < j) (hn : n < 9000) : CD i j := CD.of h b hn
theorem log2_mono {m n : Nat} (h : m ≤ n) : m.log2 ≤ n.log2 := by
  by_cases h0 : m = 0
  · rw [h0]; exact Nat.zero_le _
  · exact (Nat.le_log2 (by omega)).mpr (Nat.le_trans (Nat.log2_self_le h0) h)
theorem CM.rest {t b : Int} (c : CD t b) : CM 2 (t - t / b * b) := by
  obtain ⟨c1, c2⟩ := c
  have e : t - t / b * b = t % b := by
    have := Int.mul_ediv_add_emod t b
    rw [Int.mul_comm b] at this
    omega
  have h1 := Int.emod_nonneg t (b := b) (by omega)
  have h2 := Int.emod_lt_of_pos t c1
  have h3 := log2_mono (m := (t % b).natAbs) (n := b.natAbs) (by omega)
  show Nat.log2 2 + _ < _
  have h4 : Nat.log2 2 = 1 := by decide +kernel
  rw [e]
  omega
section
variable {X : Cx}
theorem op_mulB : OpR X (binaryOp .Mult) (rI CM fun i j => .int (i * j)) := opI fun _ _ _ _ _ _ _ hc q => mul_int q hc.ok
theorem op_fdivB : OpR X (binaryOp .FloorDiv) (rI CD fun i j => .int (i / j)) := op_fdivW
end

/-! ### the script's cells -/
def cell (ns : List Int) (i : Nat) : Int := ns.getD i 0
def Bits (ns : List Int) : Prop := ∀ z ∈ ns, Builtin.Int.intBits z ≤ 1048576
theorem cell_sz {ns : List Int} (h : Bits ns) (i : Nat) : Sz 1048576 (cell ns i) := by
  unfold cell
  rw [List.getD_eq_getElem?_getD]
  cases e : ns[i]? with
  | none => exact Sz.zero _
  | some z => exact Sz.bits (h z (List.mem_of_getElem? e))

theorem atI_map_cell {ns : List Int} {j : Nat} (h : j < ns.length) : atI (ns.map V.int) ((j : Nat) : Int) = some (V.int (cell ns j)) := by
  refine atI_nat ?_
  rw [List.getElem?_map, List.getElem?_eq_getElem h]
  unfold cell
  rw [List.getD_eq_getElem?_getD, List.getElem?_eq_getElem h]
  rfl
/-- the answer of isinstance(x, int) and not isinstance(x, bool), by the kind of x -/
def wholeV : V → Option Bool
  | .int _ => some true
  | .bl _ => some false
  | .str _ => some false
  | .non => some false
  | _ => none

/-! ### heaps that grow -/
theorem same_new {H H' : Hp} {p : Addr} {o : HO} (s : Same H H') (h : H' p = none) : Same H (upd H' p o) := fun b u e => by
  rw [upd_ne (ne_of_none (s b u e) h)]
  exact s b u e
theorem same_tup {K : PySem.W.Frag} {H H' : Hp} {a : Addr} {xs : List V} (e : Same H H') (h : SqT K H a xs) : SqT K H' a xs := Evl.ex_t e h
theorem same_lst {K : PySem.W.Frag} {H H' : Hp} {a : Addr} {xs : List V} (e : Same H H') (h : SqL K H a xs) : SqL K H' a xs := Evl.ex_l e h
theorem t_of {K : PySem.W.Frag} {H : Hp} {a : Addr} {xs : List V} (h : H a = some (.tup xs)) : SqT K H a xs := Or.inl (Or.inl h)
theorem l_of {K : PySem.W.Frag} {H : Hp} {a : Addr} {xs : List V} (h : H a = some (.lst xs)) : SqL K H a xs := Or.inl (Or.inl h)
theorem lst_upd {K : PySem.W.Frag} {H : Hp} {a p : Addr} {o : HO} {xs : List V} (e : H p = none) (h : SqL K H a xs) : SqL K (upd H p o) a xs := same_lst (same_new (Same.refl H) e) h
theorem tup_upd {K : PySem.W.Frag} {H : Hp} {a p : Addr} {o : HO} {xs : List V} (e : H p = none) (h : SqT K H a xs) : SqT K (upd H p o) a xs := same_tup (same_new (Same.refl H) e) h
/-- a law's promise: a list of at most 63 ints of at most 2^20 bits each is handed in, True comes out -/
def sp_law (K : PySem.W.Frag) : Sp := fun vs H Q _ => ∃ (a : Addr) (ns : List Int), vs = [.ref a] ∧ SqL K H a (ns.map V.int) ∧ ns.length ≤ 63 ∧ Bits ns ∧ ∀ H', Q (.bl true) H'
theorem passX {X : Cx} : Passes (L2.CX X.prog X.w) X E0 := fun _ _ _ _ _ _ _ h => by
  obtain ⟨_, _, _, _, _, _, _, _, _, _, _, _, z⟩ := h
  exact z.elim
theorem passXS {X : Cx} (σ : L2.St) : PassesAt (L2.CX X.prog X.w) X σ ((fun _ => E0 : L2.St → XK) σ) := fun _ _ _ _ _ _ h => by
  obtain ⟨_, _, _, _, _, _, _, _, _, _, _, _, z⟩ := h
  exact z.elim
theorem walk {l : PySem.W.OpenLaw} {k : Nat} {q : Program} {loose : List Str} {XP : (Str → Option Value) → Heap → Prop} {YP : World → Heap → Prop} {d : DefRec} {K : Params → PySem.W.Frag} (hn : l.most = some 63) (hdf : d.params.defaults = [])
    (hr : Room k callerA) (hY : ∀ (w : World) (h : Heap), YP w h → (K w.params).In h)
    (F : ∀ (w : World) (mg : Str → Option Value) (fa : Addr) (h : Heap), (K w.params).In h → h.Ns mainGlobals mg → mg d.name = some (.ref fa) →
      ∃ fd : FuncData, (∀ (s : Shared) (u : Value), BindsTo s fd ⟨[u], []⟩ [("script", u)]) ∧ ∀ base : Heap, (K w.params).In base → base.Ns mainGlobals mg → FnOk l.prog w (K w.params) mg base (L2.CX l.prog w) k fa fd ["script"] (sp_law (K w.params))) :
    PySem.W.WalkO q loose XP YP l.row.toRowW d [] (fun f vs => PySem.call f vs) :=
  L2.walk_ofB (n := 63) (k := k) (x := "script") (CX := fun w => L2.CX l.prog w) (sp := fun w => sp_law (K w.params)) hn (by decide) hdf hr hY F (fun _ _ a ns hl hb _ hS => ⟨a, ns, rfl, hS, hl, hb, fun _ => rfl⟩) fun _ _ _ _ _ h => by
    obtain ⟨_, _, _, _, _, _, _, _, _, _, _, _, z⟩ := h
    exact z.elim
/-- a def without defaults, as the top leaves it -/
theorem fun_of {K : PySem.W.Frag} {x qual : Str} {pa : Arguments} {bd : List Stmt} {sc : Scope} {f : Addr} {oc : Value} {od an : Option Addr} {osl : Array (Option Value)} {kV doc pm cdv ct : Value}
    (l : K.lookup f = some ⟨oc, od, .func (PySem.W.fnOf x qual pa bd sc .none kV doc pm an cdv ct), osl⟩) (c : PySem.W.codeIn K cdv qual = true) (k : PySem.W.keepIn K (.ref f) = true) :
    FunD K x qual pa bd sc [] [] f (PySem.W.fnOf x qual pa bd sc .none kV doc pm an cdv ct) := ⟨⟨oc, od, .none, kV, doc, pm, an, cdv, ct, osl, rfl, l, c, .inl ⟨rfl, rfl⟩, .inl rfl⟩, k⟩
/-! ### items by their place -/
section
variable {K : PySem.W.Frag} {H : Hp} {p : Addr} {xs : List V} {i : Int} {v : V} {Q : VK}
theorem ixT_go (h : SqT K H p xs) (e : atI xs i = some v) (q : Q v H) : rIxT K (.ref p) (.int i) H Q := ⟨p, xs, i, v, rfl, rfl, h, e, q⟩
theorem ixL_go (h : SqL K H p xs) (e : atI xs i = some v) (q : Q v H) : rIxL K (.ref p) (.int i) H Q := ⟨p, xs, i, v, rfl, rfl, h, e, q⟩
theorem ixUT_go (h : SqT K H p xs) (e : atI xs i = some v) (q : Q v H) : rIx K (.ref p) (.int i) H Q := .inr (.inl (ixT_go h e q))
theorem ixUL_go (h : SqL K H p xs) (e : atI xs i = some v) (q : Q v H) : rIx K (.ref p) (.int i) H Q := .inl (ixL_go h e q)
end
/-! ### ways -/
theorem iteD {p A B : Prop} [Decidable p] (h1 : p → A) (h2 : ¬ p → B) : if decide p = true then A else B := by
  by_cases h : p
  · rw [decide_eq_true h]; exact iteT (h1 h)
  · rw [decide_eq_false h]; exact iteF (h2 h)
theorem iteDN {p A B : Prop} [Decidable p] (h1 : ¬ p → A) (h2 : p → B) : if (!decide p) = true then A else B := by
  by_cases h : p
  · rw [decide_eq_true h]; exact iteF (h2 h)
  · rw [decide_eq_false h]; exact iteT (h1 h)
theorem iteI {x y : Int} {A B : Prop} (h1 : x = y → A) (h2 : x ≠ y → B) : if decide (V.int x = V.int y) = true then A else B :=
  iteD (fun h => h1 (V.int.inj h)) fun h => h2 fun e => h (congrArg V.int e)
theorem iteIN {x y : Int} {A B : Prop} (h1 : x ≠ y → A) (h2 : x = y → B) : if (!decide (V.int x = V.int y)) = true then A else B :=
  iteDN (fun h => h1 fun e => h (congrArg V.int e)) fun h => h2 (V.int.inj h)
theorem iteS {x y : Str} {A B : Prop} (h1 : x = y → A) (h2 : x ≠ y → B) : if decide (V.str x = V.str y) = true then A else B :=
  iteD (fun h => h1 (V.str.inj h)) fun h => h2 fun e => h (congrArg V.str e)
theorem iteSN {x y : Str} {A B : Prop} (h1 : x ≠ y → A) (h2 : x = y → B) : if (!decide (V.str x = V.str y)) = true then A else B :=
  iteDN (fun h => h1 fun e => h (congrArg V.str e)) fun h => h2 (V.str.inj h)
theorem iteLen {xs : List V} {y : Int} {A B : Prop} (e : ((xs.length : Nat) : Int) = y) (h : A) : if decide (V.int ((xs.length : Nat) : Int) = V.int y) = true then A else B := by
  subst e
  rw [decide_eq_true rfl]
  exact iteT h
theorem iteLenN {xs : List V} {y : Int} {A B : Prop} (e : ((xs.length : Nat) : Int) = y) (h : B) : if (!decide (V.int ((xs.length : Nat) : Int) = V.int y)) = true then A else B := by
  subst e
  rw [decide_eq_true rfl]
  exact iteF h
theorem iteB {b : Bool} {A B : Prop} (h1 : b = true → A) (h2 : b = false → B) : if b = true then A else B := by
  cases b
  · exact iteF (h2 rfl)
  · exact iteT (h1 rfl)
theorem iteBN {b : Bool} {A B : Prop} (h1 : b = false → A) (h2 : b = true → B) : if (!b) = true then A else B := by
  cases b
  · exact iteT (h1 rfl)
  · exact iteF (h2 rfl)
theorem q_int {Q : VK} {x y : Int} {H : Hp} (q : Q (.int x) H) (e : x = y) : Q (.int y) H := e ▸ q
theorem q_bl {Q : VK} {x y : Bool} {H : Hp} (q : Q (.bl x) H) (e : x = y) : Q (.bl y) H := e ▸ q
/-- a statement whose ways meet: P holds behind each of them -/
def tCut (t : TS) : TS := fun D σ H => ∃ W : L2.St → Hp → Prop, t { D with nx := W } σ H ∧ ∀ σ' H', W σ' H' → D.nx σ' H'
theorem ps_cut {X : Cx} {st : Stmt} {t : TS} (h : PS X st t) : PS X st (tCut t) := by
  refine ⟨fun pins s σ H D I hw => ?_⟩
  obtain ⟨W, h1, h2⟩ := hw
  refine thn (h.run pins s σ H _ I h1) fun f s' q => ?_
  cases f with
  | next =>
    obtain ⟨σ', H', I', q'⟩ := q
    exact ⟨σ', H', I', h2 σ' H' q'⟩
  | brk => exact q
  | cont => exact q
  | ret u => exact q
/-! ### what the top has written -/
def relB : V → Value → Bool
  | .non, .none => true
  | .bl b, .bool c => b == c
  | .int i, .int j _ => i == j
  | .str x, .str y _ => x == y
  | .ref a, .ref b => a == b
  | .ty n, .type m => n == m
  | _, _ => false
theorem relB_ok : ∀ {v : V} {u : Value}, relB v u = true → RelV v u
  | .non, .none, _ => rfl
  | .bl b, .bool c, h => by
    have e : b = c := by simpa [relB] using h
    rw [e]; exact rfl
  | .int i, .int j t, h => by
    have e : i = j := by simpa [relB] using h
    rw [e]; exact ⟨t, rfl⟩
  | .str x, .str y t, h => by
    have e : x = y := by simpa [relB] using h
    rw [e]; exact ⟨t, rfl⟩
  | .ref a, .ref b, h => by
    have e : a = b := by simpa [relB] using h
    rw [e]; exact rfl
  | .ty n, .type m, h => by
    have e : n = m := by simpa [relB] using h
    rw [e]; exact rfl
def valsB : List V → List Value → Bool
  | [], [] => true
  | v :: vs, u :: us => relB v u && valsB vs us
  | _, _ => false
theorem valsB_ok : ∀ {vs : List V} {us : List Value}, valsB vs us = true → Vals vs us
  | [], [], _ => .nil
  | v :: vs, u :: us, h => by
    have h2 := Bool.and_eq_true_iff.mp h
    exact .cons (relB_ok h2.1) (valsB_ok h2.2)
  | [], _ :: _, h => by cases h
  | _ :: _, [], h => by cases h
theorem tup_of {K : PySem.W.Frag} {H : Hp} {a : Addr} {od : Option Addr} {its : Array Value} {n : Nat} {sl : Array (Option Value)} {xs : List V} (l : K.lookup a = some ⟨.type "tuple", od, .seq its n, sl⟩) (v : valsB xs its.toList = true) (h : xs.length ≤ 1000 := by decide) : SqT K H a xs := by
  have r := valsB_ok v
  refine .inr ⟨_, its, n, l, rfl, rfl, ?_, r⟩
  have e : its.size = xs.length := by rw [r.length]; simp
  rw [e, sizeLine_eq]
  omega
/-- a def with defaults -/
theorem fun_ofD {K : PySem.W.Frag} {x qual : Str} {pa : Arguments} {bd : List Stmt} {sc : Scope} {f t : Addr} {oc : Value} {od an odt : Option Addr} {osl slt : Array (Option Value)} {kV doc pm cdv ct : Value} {its : Array Value} {n : Nat} {dvs : List V}
    (l : K.lookup f = some ⟨oc, od, .func (PySem.W.fnOf x qual pa bd sc (.ref t) kV doc pm an cdv ct), osl⟩) (c : PySem.W.codeIn K cdv qual = true) (k : PySem.W.keepIn K (.ref f) = true)
    (lt : K.lookup t = some ⟨.type "tuple", odt, .seq its n, slt⟩) (v : valsB dvs its.toList = true) (hd : dvs ≠ [] := by intro z; cases z) :
    FunD K x qual pa bd sc dvs [] f (PySem.W.fnOf x qual pa bd sc (.ref t) kV doc pm an cdv ct) := ⟨⟨oc, od, _, kV, doc, pm, an, cdv, ct, osl, rfl, l, c, .inr ⟨hd, t, _, its.toList, n, rfl, lt, by simp, valsB_ok v⟩, .inl rfl⟩, k⟩
section
variable {X : Cx} {CX : CXT} {k : Nat} {f : Addr} {fd : FuncData} {ps : List Str} {sp : Sp} {E : L2.St → XK} {x : Str} {p pos : Pos} {e : Expr} {es : List Expr} {t : TA} {dvs : List V}
def tCallD (sp : Sp) (dvs : List V) (E : L2.St → XK) (t : TA) : TE := fun σ H Q => t σ H fun vs H1 => sp (vs ++ dvs) H1 Q (E σ)
/-- f(e, ..), the defaults dvs fill up -/
theorem pe_callSD (F : FnOk X.prog X.w X.K X.mg X.base CX k f fd ps sp) (hr : Room k X.A) (hg : Gl X x) (hm : X.mg x = some (.ref f)) (hk : PySem.W.keepIn X.K (.ref f) = true) (hb : ∃ ds, Vals dvs ds ∧ Binds X.K fd ps ds) (hx : ∀ σ, PassesAt CX X σ (E σ))
    (ha : PA X (e :: es) t) (hdb : (x == ("__debug__" : Str)) = false := by decide) (he : starEach (e :: es) X.env = (false, eval e X.env) :: starEach es X.env := by rfl) (hpl : (backTo pos (starEach es X.env)).any (·.1) = false := by rfl) :
    PE X (.Call (.Name x p) (e :: es) [] pos) (tCallD sp dvs E t) := by
  obtain ⟨ds, hd, hb⟩ := hb
  refine ⟨fun pins s σ H Q I h => ?_⟩
  refine wpAny_Call_Name_kw (ld_glob I hg hm ?_ hdb)
  refine PySem.W.callWith_K (h₀ := X.base) I.ok.mod.kin hk (thn (ha.run pos pins s σ H _ I h) fun us s1 hh => ?_) he hpl
  obtain ⟨vs, H1, I1, r, q⟩ := hh
  have r2 : Vals (vs ++ dvs) (us ++ ds) := r.append hd
  refine ⟨I1.kIn, ?_⟩
  show wpAny _ _ (call (.ref f) us) _ _ _
  refine wpAny_call (codeAny_mono (F.run X.A X.stack s1 H1 ⟨us, []⟩ (us ++ ds) (vs ++ dvs) Q (E σ) hr I1.env0 (hb s1 us I1.kIn (r2.length.symm.trans (F.len _ _ _ _ q))) r2 q) fun rr s' hq => ?_)
  cases rr with
  | error e => exact hx σ pins H1 s1 e s' I1 hq
  | ok fl =>
    cases fl with
    | ret u => exact I1.after hq
    | next => exact False.elim hq
    | brk => exact False.elim hq
    | cont => exact False.elim hq
end
/-- one that stays behind a wall: nothing steps into it -/
structure Wall (p : Prop) : Prop where
  get : True → p
theorem wall {p : Prop} (h : p) : Wall p := ⟨fun _ => h⟩
theorem Wall.in_ {p q : Prop} (h : p → q) : Wall p → q := fun k => h (k.get trivial)
/-! ### == of flat lists and tuples -/
def pd : V → PyData
  | .bl b => .bool b
  | .int i => .int i
  | .str x => .str x
  | _ => .none
def okS (x : Str) : Bool := x.cps.toList.all fun c => Nat.blt c 0x110000
theorem okS_ok {x : Str} (h : okS x = true) : PyData.strOk x = true := by
  unfold PyData.strOk
  unfold okS at h
  rw [Array.all_toList] at h
  rw [← h]
  congr 1
  funext c
  show decide (c < 1114112) = Nat.blt c 1114112
  rw [Bool.eq_iff_iff, decide_eq_true_iff, Nat.blt_eq]
def flatS : V → Bool
  | .non => true
  | .bl _ => true
  | .int _ => true
  | .str x => okS x
  | _ => false
def eqL : List V → List V → Bool
  | [], [] => true
  | x :: xs, y :: ys => eqV x y && eqL xs ys
  | _, _ => false
theorem eqL_self : ∀ {xs : List V}, xs.all flatS = true → eqL xs xs = true
  | [], _ => rfl
  | x :: xs, h => by
    have h2 := Bool.and_eq_true_iff.mp (List.all_cons .. ▸ h)
    refine Bool.and_eq_true_iff.mpr ⟨?_, eqL_self h2.2⟩
    cases x <;> first | (exact absurd (show false = true from h2.1) Bool.false_ne_true) | simp [eqV]
theorem dp_pd {K : PySem.W.Frag} {H : Hp} : ∀ {x : V}, flatS x = true → Dp K H x (pd x)
  | .non, _ => .non
  | .bl b, _ => .bl b
  | .int i, _ => .int i
  | .str x, _ => .str x
  | .byt _, h => absurd (show false = true from h) Bool.false_ne_true
  | .flt _, h => absurd (show false = true from h) Bool.false_ne_true
  | .ref _, h => absurd (show false = true from h) Bool.false_ne_true
  | .ty _, h => absurd (show false = true from h) Bool.false_ne_true
theorem dpAll_pd {K : PySem.W.Frag} {H : Hp} : ∀ {xs : List V}, xs.all flatS = true → DpAll K H xs (xs.map pd)
  | [], _ => .nil
  | x :: xs, h => by
    have h2 := Bool.and_eq_true_iff.mp (List.all_cons .. ▸ h)
    exact .cons (dp_pd h2.1) (dpAll_pd h2.2)
theorem lay_pd : ∀ {x : V}, flatS x = true → (pd x).canLay0 = true ∧ (pd x).depth = 0 := fun {x} h => by
  cases x <;> first | (exact absurd (show false = true from h) Bool.false_ne_true) | (refine ⟨?_, ?_⟩ <;> simp only [pd, PyData.canLay0, PyData.depth]) 
  all_goals exact okS_ok h
theorem layAll_pd : ∀ {xs : List V}, xs.all flatS = true → PyData.canLayAll0 (xs.map pd) = true ∧ PyData.depthAll (xs.map pd) = 0
  | [], _ => ⟨by simp only [List.map, PyData.canLayAll0], by simp only [List.map, PyData.depthAll]⟩
  | x :: xs, h => by
    have h2 := Bool.and_eq_true_iff.mp (List.all_cons .. ▸ h)
    have a := lay_pd h2.1
    have b := layAll_pd h2.2
    simp only [List.map, PyData.canLayAll0, PyData.depthAll, a.1, a.2, b.1, b.2]
    decide
theorem shaped_pd {xs : List V} (h : xs.all flatS = true) : SeqAt.shaped (.tuple (xs.map pd)) = true ∧ SeqAt.shaped (.list (xs.map pd)) = true := by
  have a := layAll_pd h
  unfold SeqAt.shaped
  simp only [PyData.canLay0, PyData.depth, a.1, a.2]
  decide
theorem eqv_pd : ∀ {x y : V}, flatS x = true → flatS y = true → PyData.eqv (pd x) (pd y) = eqV x y := fun {x y} hx hy => by
  cases x <;> first | (exact absurd (show false = true from hx) Bool.false_ne_true) | skip
  all_goals cases y <;> first | (exact absurd (show false = true from hy) Bool.false_ne_true) | (simp only [pd, PyData.eqv, eqV])
theorem eqvAll_pd : ∀ {xs ys : List V}, xs.all flatS = true → ys.all flatS = true → PyData.eqvAll (xs.map pd) (ys.map pd) = eqL xs ys
  | [], [], _, _ => by simp only [List.map, PyData.eqvAll, eqL]
  | [], _ :: _, _, _ => by simp only [List.map, PyData.eqvAll, eqL]
  | _ :: _, [], _, _ => by simp only [List.map, PyData.eqvAll, eqL]
  | x :: xs, y :: ys, h, k => by
    have h2 := Bool.and_eq_true_iff.mp (List.all_cons .. ▸ h)
    have k2 := Bool.and_eq_true_iff.mp (List.all_cons .. ▸ k)
    simp only [List.map, PyData.eqvAll, eqL, eqv_pd h2.1 k2.1, eqvAll_pd h2.2 k2.2]
section
variable {K : PySem.W.Frag} {H : Hp} {a b : Addr} {xs ys : List V} {Q : VK}
theorem eqD_T (h1 : SqT K H a xs) (h2 : SqT K H b ys) (f1 : xs.all flatS = true) (f2 : ys.all flatS = true) (q : Q (.bl (eqL xs ys)) H) : rEqD K (.ref a) (.ref b) H Q := by
  refine ⟨_, _, .tup h1 (dpAll_pd f1), .tup h2 (dpAll_pd f2), (shaped_pd f1).1, (shaped_pd f2).1, ?_⟩
  simp only [PyData.eqv, eqvAll_pd f1 f2]
  exact q
theorem neD_T (h1 : SqT K H a xs) (h2 : SqT K H b ys) (f1 : xs.all flatS = true) (f2 : ys.all flatS = true) (q : Q (.bl (!eqL xs ys)) H) : rNeD K (.ref a) (.ref b) H Q := by
  refine ⟨_, _, .tup h1 (dpAll_pd f1), .tup h2 (dpAll_pd f2), (shaped_pd f1).1, (shaped_pd f2).1, ?_⟩
  simp only [PyData.eqv, eqvAll_pd f1 f2]
  exact q
theorem eqD_L (h1 : SqL K H a xs) (h2 : SqL K H b ys) (f1 : xs.all flatS = true) (f2 : ys.all flatS = true) (q : Q (.bl (eqL xs ys)) H) : rEqD K (.ref a) (.ref b) H Q := by
  refine ⟨_, _, .lst h1 (dpAll_pd f1), .lst h2 (dpAll_pd f2), (shaped_pd f1).2, (shaped_pd f2).2, ?_⟩
  simp only [PyData.eqv, eqvAll_pd f1 f2]
  exact q
theorem neD_L (h1 : SqL K H a xs) (h2 : SqL K H b ys) (f1 : xs.all flatS = true) (f2 : ys.all flatS = true) (q : Q (.bl (!eqL xs ys)) H) : rNeD K (.ref a) (.ref b) H Q := by
  refine ⟨_, _, .lst h1 (dpAll_pd f1), .lst h2 (dpAll_pd f2), (shaped_pd f1).2, (shaped_pd f2).2, ?_⟩
  simp only [PyData.eqv, eqvAll_pd f1 f2]
  exact q
/-- the same items: equal -/
theorem eqD_TT (h1 : SqT K H a xs) (h2 : SqT K H b ys) (e : xs = ys) (f : xs.all flatS = true) (q : Q (.bl true) H) : rEqD K (.ref a) (.ref b) H Q := by
  subst e
  exact eqD_T h1 h2 f f ((eqL_self f).symm ▸ q)
theorem neD_TT (h1 : SqT K H a xs) (h2 : SqT K H b ys) (e : xs = ys) (f : xs.all flatS = true) (q : Q (.bl false) H) : rNeD K (.ref a) (.ref b) H Q := by
  subst e
  exact neD_T h1 h2 f f (by rw [eqL_self f]; exact q)
theorem eqD_LL (h1 : SqL K H a xs) (h2 : SqL K H b ys) (e : xs = ys) (f : xs.all flatS = true) (q : Q (.bl true) H) : rEqD K (.ref a) (.ref b) H Q := by
  subst e
  exact eqD_L h1 h2 f f ((eqL_self f).symm ▸ q)
theorem neD_LL (h1 : SqL K H a xs) (h2 : SqL K H b ys) (e : xs = ys) (f : xs.all flatS = true) (q : Q (.bl false) H) : rNeD K (.ref a) (.ref b) H Q := by
  subst e
  exact neD_L h1 h2 f f (by rw [eqL_self f]; exact q)
end
/-! ### isinstance -/
theorem tyx_t {K : PySem.W.Frag} {H : Hp} {a : Addr} {xs : List V} (h : SqT K H a xs) : TyX K H (.ref a) (.type "tuple") := by
  rcases h with (h | ⟨o, h⟩) | ⟨o, its, n, h1, h2, _⟩
  · exact .base (.tup h)
  · exact .fTuple h
  · exact .kTuple h1 h2
theorem tyx_l {K : PySem.W.Frag} {H : Hp} {a : Addr} {xs : List V} (h : SqL K H a xs) : TyX K H (.ref a) (.type "list") := by
  rcases h with (h | ⟨o, h⟩) | ⟨o, its, n, h1, h2, _⟩
  · exact .base (.lst h)
  · exact .base (.frz h)
  · exact .kList h1 h2
@[irreducible] def rIs (K : PySem.W.Frag) : List V → Hp → VK → Prop := fun xs H Q => rIsi K xs H Q
theorem call_is {X : Cx} : CallR X (.builtin "isinstance") (rIs X.K) := fun pins s σ H xs us Q I r h => call_isi pins s σ H xs us Q I r (by unfold rIs at h; exact h)
theorem isi_go {K : PySem.W.Frag} {H : Hp} {x : V} {a b : String} {r : Bool} {Q : VK} (h : TyX K H x (.type a)) (k : kitB a b = some r) (q : Q (.bl r) H) : rIs K [x, .ty b] H Q := by
  unfold rIs
  exact ⟨_, _, _, _, r, rfl, .ty _, h, kit_ty k, q⟩
theorem not_pos {b : Bool} (h : b = false) : (!b) = true := by rw [h]; rfl
def any1 : List V → Prop := fun _ => True
/-! ### len -/
@[irreducible] def rLn (K : PySem.W.Frag) : List V → Hp → VK → Prop := fun xs H Q => ∃ p ys, xs = [.ref p] ∧ (SqL K H p ys ∨ SqT K H p ys) ∧ Q (.int ys.length) H
theorem call_ln {X : Cx} : CallR X (.builtin "len") (rLn X.K) := fun pins s σ H xs us Q I r h => call_len_seq pins s σ H xs us Q I r (by unfold rLn at h; exact h)
section
variable {K : PySem.W.Frag} {H : Hp} {p : Addr} {ys : List V} {Q : VK}
theorem ln_t (h : SqT K H p ys) (q : Q (.int ys.length) H) : rLn K [.ref p] H Q := by
  unfold rLn
  exact ⟨_, _, rfl, .inr h, q⟩
theorem ln_l (h : SqL K H p ys) (q : Q (.int ys.length) H) : rLn K [.ref p] H Q := by
  unfold rLn
  exact ⟨_, _, rfl, .inl h, q⟩
end
theorem same_set {H H' : Hp} {p : Addr} {o : HO} (s : Same H H') (h : H p = none) : Same H (upd H' p o) := fun b u e => by
  have hb : b ≠ p := fun z => by
    rw [z, h] at e
    cases e
  rw [upd_ne hb]
  exact s b u e
theorem map_len {α : Type} {f : α → V} {xs : List α} : (((xs.map f).length : Nat) : Int) = ((xs.length : Nat) : Int) := by rw [List.length_map]
theorem range_snoc {f : Nat → Int} {i : Nat} {y : Int} (e : f i = y) : ((List.range i).map f).map V.int ++ [V.int y] = ((List.range (i + 1)).map f).map V.int := by
  subst e
  rw [List.range_succ, List.map_append, List.map_append]
  rfl
theorem atI_map {ns : List Int} {j : Nat} (h : j < ns.length) : atI (ns.map V.int) (0 + ((j : Nat) : Int)) = some (V.int (ns.getD j 0)) := by
  rw [Int.zero_add]
  exact atI_map_cell h
/-! ### methods of lists -/
@[irreducible] def rApp : V → List V → Hp → VK → Prop := fun x vs H Q => rAppend x vs H Q
theorem mt_app {X : Cx} : MtM X "list.append" rApp := fun pins s σ H x vs v us Q I rx rv h => mt_append pins s σ H x vs v us Q I rx rv (by unfold rApp at h; exact h)
theorem app_go {H : Hp} {l : Addr} {xs : List V} {y : V} {Q : VK} (e : H l = some (.lst xs)) (hl : xs.length < sizeLine) (q : Q .non (upd H l (.lst (xs ++ [y])))) : rApp (.ref l) [y] H Q := by
  unfold rApp
  exact ⟨l, xs, y, rfl, rfl, e, hl, q⟩
theorem ty_l {K : PySem.W.Frag} {H : Hp} {p : Addr} {xs : List V} (h : SqL K H p xs) : tyV K "list" (.ref p) H := .inl ⟨rfl, _, h⟩
theorem ty_s {K : PySem.W.Frag} {H : Hp} {z : Str} : tyV K "str" (.str z) H := rfl
theorem ty_d {K : PySem.W.Frag} {H : Hp} {p : Addr} {kvs : List (Key × V)} (h : H p = some (.dK kvs)) : tyV K "dict" (.ref p) H := .inr (.inr (.inl ⟨rfl, .inl ⟨_, h⟩⟩))
/-! ### a call that writes all parameters, the last ones by name -/
section
variable {K : PySem.W.Frag} {x qual : Str} {params : Arguments} {body : List Stmt} {scope : Scope} {dvs : List V} {kws : List (Str × V)} {f : Addr} {fd : FuncData} {ps : List Str}
theorem kb_all (F : FunD K x qual params body scope dvs kws f fd) (n : Nat) (ks : List Str) (hd : dvs ≠ [])
    (h : ∀ (T : Addr) (kV doc pm : Value) (an : Option Addr) (cdv ct : Value) (us its ws : List Value), us.length = n → its.length = dvs.length → ws.length = ks.length →
      ∃ k, bindArgs (PySem.W.fnOf x qual params body scope (.ref T) kV doc pm an cdv ct) ⟨us, ks.zip ws⟩ = seqItems? (.ref T) >>= k ∧ k (some its.toArray) = pure (ps.zip (us ++ ws))) :
    KBn K fd ps n ks (fun us ws => us ++ ws) (fun vs zs => vs ++ zs) := by
  obtain ⟨oc, od, dV, kV, doc, pm, an, cdv, ct, osl, rfl, lk, hcd, hD, hK⟩ := F.ex
  rcases hD with ⟨e, _⟩ | ⟨_, t, o, its, m, rfl, lT, oT, rT⟩
  · exact absurd e hd
  · refine ⟨fun s us ws X l1 l2 => ?_, fun r1 r2 => r1.append r2⟩
    obtain ⟨k, e1, e2⟩ := h t kV doc pm an cdv ct us its ws l1 rT.length.symm l2
    refine BindsTo.of_looks fun M => ?_
    rw [e1]
    exact looks_items X lT oT (.of_pure e2)
end
/-! ### a, b, c = pair -/
theorem gTup_go {K : PySem.W.Frag} {n : Nat} {t : TGs} {a : Addr} {xs : List V} {σ : L2.St} {H : Hp} {Q : L2.St → Hp → Prop} (h : SqT K H a xs) (l : xs.length = n) (q : t xs σ H Q) : gTup K n t (.ref a) σ H Q := ⟨a, xs, rfl, h, l, q⟩
theorem gCons_go {t : TG} {u : TGs} {v : V} {r : List V} {σ : L2.St} {H : Hp} {Q : L2.St → Hp → Prop} (q : t v σ H fun σ' H' => u r σ' H' Q) : gCons t u (v :: r) σ H Q := ⟨v, r, rfl, q⟩
theorem gNil_go {σ : L2.St} {H : Hp} {Q : L2.St → Hp → Prop} (q : Q σ H) : gNil [] σ H Q := ⟨rfl, q⟩
/-! ### min and max of two -/
@[irreducible] def rMn : List V → Hp → VK → Prop := fun xs H Q => ∃ i j, xs = [.int i, .int j] ∧ Q (.int (if j < i then j else i)) H
@[irreducible] def rMx : List V → Hp → VK → Prop := fun xs H Q => ∃ i j, xs = [.int i, .int j] ∧ Q (.int (if i < j then j else i)) H
theorem call_mn {X : Cx} (hc : X.calm = true) : CallR X (.builtin "min") rMn := fun pins s σ H xs us Q I r h => call_min2 hc pins s σ H xs us Q I r (by unfold rMn at h; exact h)
theorem call_mx {X : Cx} (hc : X.calm = true) : CallR X (.builtin "max") rMx := fun pins s σ H xs us Q I r h => call_max2 hc pins s σ H xs us Q I r (by unfold rMx at h; exact h)
theorem mn_go {i j : Int} {H : Hp} {Q : VK} (q : Q (.int (if j < i then j else i)) H) : rMn [.int i, .int j] H Q := by
  unfold rMn
  exact ⟨i, j, rfl, q⟩
theorem mx_go {i j : Int} {H : Hp} {Q : VK} (q : Q (.int (if i < j then j else i)) H) : rMx [.int i, .int j] H Q := by
  unfold rMx
  exact ⟨i, j, rfl, q⟩
theorem atI_ex (xs : List Int) {i : Int} (h0 : 0 ≤ i) (h1 : i < (xs.length : Nat)) : ∃ z, z ∈ xs ∧ atI (xs.map V.int) i = some (V.int z) := by
  obtain ⟨n, rfl⟩ : ∃ n : Nat, i = n := ⟨i.toNat, by omega⟩
  have hn : n < xs.length := by omega
  refine ⟨xs[n], List.getElem_mem hn, ?_⟩
  refine atI_nat ?_
  rw [List.getElem?_map, List.getElem?_eq_getElem hn]
  rfl
/-! ### x in xs, flat -/
@[irreducible] def rInS (K : PySem.W.Frag) (neg : Bool) : R2 := fun x y H Q => rIn K neg x y H Q
theorem op_inS {X : Cx} : OpR X (compareOp .In) (rInS X.K false) := fun pins s σ H x y v u Q I rx ry h => op_in_seq pins s σ H x y v u Q I rx ry (by unfold rInS at h; exact h)
theorem op_notInS {X : Cx} : OpR X (compareOp .NotIn) (rInS X.K true) := fun pins s σ H x y v u Q I rx ry h => op_notIn_seq pins s σ H x y v u Q I rx ry (by unfold rInS at h; exact h)
section
variable {K : PySem.W.Frag} {H : Hp} {p : Addr} {x : V} {xs : List V} {Q : VK}
theorem inT_go (h : SqT K H p xs) (fx : flatV x = true) (fs : xs.all flatV = true) (q : Q (.bl (inV x xs)) H) : rInS K false x (.ref p) H Q := by
  unfold rInS
  exact ⟨p, xs, rfl, .inr h, fx, fs, q⟩
theorem inL_go (h : SqL K H p xs) (fx : flatV x = true) (fs : xs.all flatV = true) (q : Q (.bl (inV x xs)) H) : rInS K false x (.ref p) H Q := by
  unfold rInS
  exact ⟨p, xs, rfl, .inl h, fx, fs, q⟩
theorem niT_go (h : SqT K H p xs) (fx : flatV x = true) (fs : xs.all flatV = true) (q : Q (.bl (!inV x xs)) H) : rInS K true x (.ref p) H Q := by
  unfold rInS
  exact ⟨p, xs, rfl, .inr h, fx, fs, q⟩
theorem niL_go (h : SqL K H p xs) (fx : flatV x = true) (fs : xs.all flatV = true) (q : Q (.bl (!inV x xs)) H) : rInS K true x (.ref p) H Q := by
  unfold rInS
  exact ⟨p, xs, rfl, .inl h, fx, fs, q⟩
end
/-! ### == of two pairs (text, tuple) -/
theorem eqD_nest {K : PySem.W.Frag} {H : Hp} {a b p q : Addr} {s : Str} {xs : List V} {Q : VK} (h1 : SqT K H a [.str s, .ref p]) (h2 : SqT K H b [.str s, .ref q]) (hp : SqT K H p xs) (hq : SqT K H q xs) (hs : okS s = true) (f : xs.all flatS = true) (k : Q (.bl true) H) : rEqD K (.ref a) (.ref b) H Q := by
  have e := layAll_pd f
  have sh : SeqAt.shaped (.tuple [.str s, .tuple (xs.map pd)]) = true := by
    unfold SeqAt.shaped
    simp only [PyData.canLay0, PyData.canLayAll0, PyData.depth, PyData.depthAll, e.1, e.2, okS_ok hs]
    decide
  refine ⟨_, _, .tup h1 (.cons (.str s) (.cons (.tup hp (dpAll_pd f)) .nil)), .tup h2 (.cons (.str s) (.cons (.tup hq (dpAll_pd f)) .nil)), sh, sh, ?_⟩
  rw [SeqAt.eqv_refl _ (SeqAt.canLay_of_shaped sh)]
  exact k
/-! ### xs[i] = v -/
@[irreducible] def rSetLi : V → V → V → Hp → (Hp → Prop) → Prop := fun o i v H Q => rSetL o i v H Q
theorem set_li {X : Cx} : PSet X rSetLi := fun pins s σ H o i v ov iv u Q I ro ri rv h => set_list pins s σ H o i v ov iv u Q I ro ri rv (by unfold rSetLi at h; exact h)
theorem setL_go {H : Hp} {p : Addr} {xs : List V} {k : Int} {j : Nat} {v : V} {Q : Hp → Prop} (h : H p = some (.lst xs)) (e : ixN xs.length k = some j) (q : Q (upd H p (.lst (xs.set j v)))) : rSetLi (.ref p) (.int k) v H Q := by
  unfold rSetLi
  exact ⟨p, xs, k, j, rfl, rfl, h, e, q⟩
/-! ### slices -/
section
variable {K : PySem.W.Frag} {H : Hp} {p : Addr} {xs : List V} {lo hi : Option Int} {Q : VK}
theorem slL_go (h : SqL K H p xs) (q : ∀ r, H r = none → Q (.ref r) (upd H r (.lst (cutV xs lo hi)))) : rSlL K (.ref p) lo hi H Q := ⟨p, xs, rfl, h, q⟩
end
/-! ### comprehensions over a list -/
theorem upd_upd {H : Hp} {a : Addr} {o o' : HO} : upd (upd H a o) a o' = upd H a o' := by
  funext b
  by_cases e : b = a
  · subst e
    rw [upd_same, upd_same]
  · rw [upd_ne e, upd_ne e, upd_ne e]
theorem hp_upd {H : Hp} {a p : Addr} {o o' : HO} (e : H p = none) (h : H a = some o) : upd H p o' a = some o := (upd_ne (ne_of_none h e)).trans h
section
variable {K : PySem.W.Frag} {a D : Addr} {g : TG} {tt : TT} {te : TE} {vs : List Nat} {σ : L2.St} {H1 : Hp} {Qd : Hp → Prop}
/-- [x for x in ns if p x] -/
theorem lc_fil {ns : List Int} (p : Int → Bool) (hD : H1 D = none) (hl : SqL K H1 a (ns.map V.int)) (hn : ns.length < sizeLine)
    (hs : ∀ z H (N : Hp → Prop) acc, H D = some (.lst acc) → acc.length < sizeLine → (p z = true → N (upd H D (.lst (acc ++ [.int z])))) → (p z = false → N H) →
      g (.int z) (wipe σ vs) H fun σ2 H2 => wipe σ2 vs = wipe σ vs ∧ tt σ2 H2 fun b H3 => if b = true then te σ2 H3 fun y H4 => ∃ acc, H4 D = some (.lst acc) ∧ acc.length < sizeLine ∧ N (upd H4 D (.lst (acc ++ [y]))) else N H3)
    (hd : Qd (upd H1 D (.lst ((ns.filter p).map V.int)))) :
    ∃ W : Nat → Nat → Hp → Prop, (∃ m, W 0 m (upd H1 D (.lst []))) ∧ ∀ i m H, W i m H →
      ((Itl K a).stop i H ∧ Qd H) ∨ ((Itl K a).go i H ∧ ∃ Nx : Hp → Prop, (∀ H', Nx H' → ∃ m', m' < m ∧ W (i + 1) m' H') ∧ ∀ x H', (Itl K a).yld i H x H' → g x (wipe σ vs) H' fun σ2 H2 => wipe σ2 vs = wipe σ vs ∧ tt σ2 H2 fun b H3 =>
        if b = true then te σ2 H3 fun y H4 => ∃ acc, H4 D = some (.lst acc) ∧ acc.length < sizeLine ∧ Nx (upd H4 D (.lst (acc ++ [y]))) else Nx H3) := by
  refine lc_list (xs := ns.map V.int) (fun i H => H = upd H1 D (.lst (((ns.take i).filter p).map V.int))) rfl (fun i H _ e => e ▸ lst_upd hD hl) ?_ ?_
  · rintro i x H hx rfl
    rw [List.getElem?_map] at hx
    cases hz : ns[i]? with
    | none => rw [hz] at hx; cases hx
    | some z =>
      rw [hz] at hx
      cases hx
      have ht : ns.take (i + 1) = ns.take i ++ [z] := by rw [List.take_add_one, hz]; rfl
      refine hs z _ _ _ upd_same ?_ (fun c => ?_) (fun c => ?_)
      · rw [List.length_map]
        refine Nat.lt_of_le_of_lt (List.length_filter_le _ _) (Nat.lt_of_le_of_lt ?_ hn)
        rw [List.length_take]
        exact Nat.min_le_right _ _
      · rw [ht, List.filter_append, List.map_append, upd_upd]
        simp [c]
      · rw [ht, List.filter_append]
        simp [c]
  · rintro H rfl
    rw [List.length_map, List.take_length]
    exact hd
/-- [f x for x in xs] -/
theorem lc_mp {xs : List V} (f : V → V) (hD : H1 D = none) (hl : SqL K H1 a xs) (hn : xs.length < sizeLine)
    (hs : ∀ (i : Nat) (x : V) (H : Hp) (N : Hp → Prop) (acc : List V), xs[i]? = some x → Same H1 H → H D = some (.lst acc) → acc.length < sizeLine → (∀ H', Same H1 H' → H' D = some (.lst (acc ++ [f x])) → N H') →
      g x (wipe σ vs) H fun σ2 H2 => wipe σ2 vs = wipe σ vs ∧ tt σ2 H2 fun b H3 => if b = true then te σ2 H3 fun y H4 => ∃ acc, H4 D = some (.lst acc) ∧ acc.length < sizeLine ∧ N (upd H4 D (.lst (acc ++ [y]))) else N H3)
    (hd : ∀ H', Same H1 H' → H' D = some (.lst (xs.map f)) → Qd H') :
    ∃ W : Nat → Nat → Hp → Prop, (∃ m, W 0 m (upd H1 D (.lst []))) ∧ ∀ i m H, W i m H →
      ((Itl K a).stop i H ∧ Qd H) ∨ ((Itl K a).go i H ∧ ∃ Nx : Hp → Prop, (∀ H', Nx H' → ∃ m', m' < m ∧ W (i + 1) m' H') ∧ ∀ x H', (Itl K a).yld i H x H' → g x (wipe σ vs) H' fun σ2 H2 => wipe σ2 vs = wipe σ vs ∧ tt σ2 H2 fun b H3 =>
        if b = true then te σ2 H3 fun y H4 => ∃ acc, H4 D = some (.lst acc) ∧ acc.length < sizeLine ∧ Nx (upd H4 D (.lst (acc ++ [y]))) else Nx H3) := by
  refine lc_list (xs := xs) (fun i H => Same H1 H ∧ H D = some (.lst ((xs.take i).map f))) ⟨same_new (Same.refl _) hD, upd_same⟩ (fun i H _ e => same_lst e.1 hl) ?_ ?_
  · rintro i x H hx ⟨s, e⟩
    have ht : xs.take (i + 1) = xs.take i ++ [x] := by rw [List.take_add_one, hx]; rfl
    refine hs i x _ _ _ hx s e ?_ fun H' s' e' => ?_
    · rw [List.length_map, List.length_take]
      exact Nat.lt_of_le_of_lt (Nat.min_le_right _ _) hn
    · refine ⟨s', ?_⟩
      rw [ht, List.map_append]
      exact e'
  · rintro H ⟨s, e⟩
    rw [List.take_length] at e
    exact hd H s e
end
/-! ### comprehensions over a range -/
section
variable {D : Addr} {g : TG} {tt : TT} {te : TE} {vs : List Nat} {σ : L2.St} {H1 : Hp} {Qd : Hp → Prop}
theorem lc_rgm {n : Nat} (f : Nat → V) (hD : H1 D = none) (hn : n < sizeLine)
    (hs : ∀ (i : Nat) (H : Hp) (N : Hp → Prop) (acc : List V), i < n → Same H1 H → H D = some (.lst acc) → acc.length < sizeLine → (∀ H', Same H1 H' → H' D = some (.lst (acc ++ [f i])) → N H') →
      g (.int (0 + (i : Nat))) (wipe σ vs) H fun σ2 H2 => wipe σ2 vs = wipe σ vs ∧ tt σ2 H2 fun b H3 => if b = true then te σ2 H3 fun y H4 => ∃ acc, H4 D = some (.lst acc) ∧ acc.length < sizeLine ∧ N (upd H4 D (.lst (acc ++ [y]))) else N H3)
    (hd : ∀ H', Same H1 H' → H' D = some (.lst ((List.range n).map f)) → Qd H') :
    ∃ W : Nat → Nat → Hp → Prop, (∃ m, W 0 m (upd H1 D (.lst []))) ∧ ∀ i m H, W i m H →
      ((Itr 0 n).stop i H ∧ Qd H) ∨ ((Itr 0 n).go i H ∧ ∃ Nx : Hp → Prop, (∀ H', Nx H' → ∃ m', m' < m ∧ W (i + 1) m' H') ∧ ∀ x H', (Itr 0 n).yld i H x H' → g x (wipe σ vs) H' fun σ2 H2 => wipe σ2 vs = wipe σ vs ∧ tt σ2 H2 fun b H3 =>
        if b = true then te σ2 H3 fun y H4 => ∃ acc, H4 D = some (.lst acc) ∧ acc.length < sizeLine ∧ Nx (upd H4 D (.lst (acc ++ [y]))) else Nx H3) := by
  refine lc_range (fun i H => Same H1 H ∧ H D = some (.lst ((List.range i).map f))) ⟨same_new (Same.refl _) hD, upd_same⟩ ?_ fun H e => hd H e.1 e.2
  rintro i H hi ⟨s, e⟩
  refine hs i H _ _ hi s e ?_ fun H' s' e' => ⟨s', ?_⟩
  · rw [List.length_map, List.length_range]
    exact Nat.lt_trans hi hn
  · rw [List.range_succ, List.map_append]
    exact e'
end
theorem range_rep {n : Nat} {v : Int} : (List.range n).map (fun _ => V.int v) = (List.replicate n v).map V.int := by
  rw [List.map_const', List.length_range, List.map_replicate]
/-! ### max of a list -/
@[irreducible] def rMxl (K : PySem.W.Frag) : List V → Hp → VK → Prop := fun vs H Q => rMax K vs H Q
theorem call_mxl {X : Cx} (hc : X.calm = true) : CallR X (.builtin "max") (rMxl X.K) := fun pins s σ H xs us Q I r h => cr_max hc pins s σ H xs us Q I r (by unfold rMxl at h; exact h)
theorem mxl_go {K : PySem.W.Frag} {H : Hp} {p : Addr} {ns : List Int} {Q : VK} (h : SqL K H p (ns.map V.int)) (h0 : 0 < ns.length) (q : ∀ m, m ∈ ns → (∀ y, y ∈ ns → y ≤ m) → Q (.int m) H) : rMxl K [.ref p] H Q := by
  unfold rMxl
  exact ⟨p, ns, rfl, h, h0, q⟩
/-! ### x is True -/
@[irreducible] def rIsB : R2 := fun x y H Q => ∃ b c, x = .bl b ∧ y = .bl c ∧ Q (.bl (b == c)) H
@[irreducible] def rNotB : R2 := fun x y H Q => ∃ b c, x = .bl b ∧ y = .bl c ∧ Q (.bl (!(b == c))) H
section
variable {X : Cx} {b c : Bool} {H : Hp} {Q : VK}
theorem op_isB : OpR X (compareOp .Is) rIsB := fun pins s σ H x y v u Q I rx ry h => by
  unfold rIsB at h
  obtain ⟨b, c, rfl, rfl, q⟩ := h
  cases (show v = Value.bool b from rx)
  cases (show u = Value.bool c from ry)
  refine PySem.wpAny_is_plain rfl ⟨.bl (b == c), H, I, ?_, q⟩
  cases b <;> cases c <;> rfl
theorem op_notB : OpR X (compareOp .IsNot) rNotB := fun pins s σ H x y v u Q I rx ry h => by
  unfold rNotB at h
  obtain ⟨b, c, rfl, rfl, q⟩ := h
  cases (show v = Value.bool b from rx)
  cases (show u = Value.bool c from ry)
  refine PySem.wpAny_isNot_plain rfl ⟨.bl (!(b == c)), H, I, ?_, q⟩
  cases b <;> cases c <;> rfl
theorem isB_go (q : Q (.bl (b == c)) H) : rIsB (.bl b) (.bl c) H Q := by
  unfold rIsB
  exact ⟨b, c, rfl, rfl, q⟩
theorem notB_go (q : Q (.bl (!(b == c))) H) : rNotB (.bl b) (.bl c) H Q := by
  unfold rNotB
  exact ⟨b, c, rfl, rfl, q⟩
end
theorem tC_go {v : V} {σ : L2.St} {H : Hp} {Q : VK} (q : Q v H) : tC v σ H Q := q
theorem tNoPart_go {σ : L2.St} {H : Hp} {Q : Option Int → Hp → Prop} (q : Q none H) : tNoPart σ H Q := q
/-! ### list(xs) -/
@[irreducible] def rLo (K : PySem.W.Frag) : List V → Hp → VK → Prop := fun vs H Q => ∃ p xs, vs = [.ref p] ∧ (SqL K H p xs ∨ SqT K H p xs) ∧ ∀ l, H l = none → Q (.ref l) (upd H l (.lst xs))
theorem call_lo {X : Cx} : CallR X (.type "list") (rLo X.K) := fun pins s σ H xs us Q I r h => call_list_of pins s σ H xs us Q I r (by unfold rLo at h; exact h)
section
variable {K : PySem.W.Frag} {H : Hp} {p : Addr} {xs : List V} {Q : VK}
theorem lo_l (h : SqL K H p xs) (q : ∀ l, H l = none → Q (.ref l) (upd H l (.lst xs))) : rLo K [.ref p] H Q := by
  unfold rLo
  exact ⟨p, xs, rfl, .inl h, q⟩
theorem lo_t (h : SqT K H p xs) (q : ∀ l, H l = none → Q (.ref l) (upd H l (.lst xs))) : rLo K [.ref p] H Q := by
  unfold rLo
  exact ⟨p, xs, rfl, .inr h, q⟩
end
theorem flatI {fl : List Int} : (fl.map V.int).all flatS = true := by
  rw [List.all_map]
  exact List.all_eq_true.mpr fun _ _ => rfl
/-! ### xs + ys -/
@[irreducible] def rCt : R2 := fun x y H Q => rCat x y H Q
theorem op_ct {X : Cx} : OpR X (binaryOp .Add) rCt := fun pins s σ H x y v u Q I rx ry h => op_cat pins s σ H x y v u Q I rx ry (by unfold rCt at h; exact h)
theorem ct_go {H : Hp} {a b : Addr} {xs ys : List V} {Q : VK} (h1 : H a = some (.lst xs)) (h2 : H b = some (.lst ys)) (hl : xs.length + ys.length ≤ sizeLine) (q : ∀ r, H r = none → Q (.ref r) (upd H r (.lst (xs ++ ys)))) : rCt (.ref a) (.ref b) H Q := by
  unfold rCt
  exact ⟨a, b, xs, ys, rfl, rfl, h1, h2, hl, q⟩
/-! ### f() -/
section
variable {X : Cx} {CX : CXT} {k : Nat} {f : Addr} {fd : FuncData} {sp : Sp} {E : L2.St → XK} {x : Str} {p pos : Pos}
def tCall0 (sp : Sp) (E : L2.St → XK) : TE := fun σ H Q => sp [] H Q (E σ)
theorem pe_callS0 (F : FnOk X.prog X.w X.K X.mg X.base CX k f fd [] sp) (hr : Room k X.A) (hg : Gl X x) (hm : X.mg x = some (.ref f)) (hk : PySem.W.keepIn X.K (.ref f) = true) (hb : Binds X.K fd [] []) (hx : ∀ σ, PassesAt CX X σ (E σ))
    (hdb : (x == ("__debug__" : Str)) = false := by decide) : PE X (.Call (.Name x p) [] [] pos) (tCall0 sp E) := by
  refine ⟨fun pins s σ H Q I h => ?_⟩
  refine wpAny_Call_Name_kw (ld_glob I hg hm ?_ hdb)
  exact PySem.W.callWith_K0 I.kIn hk (run_fnS (us := []) F hr hb (hx σ) I .nil h)
end
end LB

set_option Elab.async false
set_option linter.all false
set_option maxRecDepth 100000
set_option maxHeartbeats 4000000
/-! lists of tuples -/
namespace LB
open PySem PySem.Spec PyProof.Rows L2
/-- an object that may be written -/
def mutO : HO → Bool
  | .lst _ => true
  | .dK _ => true
  | .dT _ => true
  | .set _ _ => true
  | .ins _ _ _ => true
  | .own _ => true
  | .xd _ => true
  | _ => false
section
variable {K : PySem.W.Frag} {H H' : Hp} {a b D : Addr} {o o' : HO} {xs ys : List V}
theorem tup_put (e : H D = some o) (m : mutO o = true) (h : SqT K H a xs) : SqT K (upd H D o') a xs := by
  rcases h with (h | ⟨u, h⟩) | h
  · refine .inl (.inl ?_)
    rw [upd_ne (ne_of h e (by intro z; cases z; cases m))]
    exact h
  · refine .inl (.inr ⟨u, ?_⟩)
    rw [upd_ne (ne_of h e (by intro z; cases z; cases m))]
    exact h
  · exact .inr h
theorem tup_uniq (h1 : H a = some (.tup xs)) (h2 : H a = some (.tup ys)) : xs = ys := by
  rw [h1] at h2
  cases h2
  rfl
/-- vs are the addresses of the tuples rows -/
structure Tups (K : PySem.W.Frag) (H : Hp) (vs : List V) (rows : List (List V)) : Prop where
  len : vs.length = rows.length
  at_ : ∀ (i : Nat) (r : List V), rows[i]? = some r → ∃ a : Addr, vs[i]? = some (V.ref a) ∧ SqT K H a r
theorem Tups.nil : Tups K H [] [] := ⟨rfl, fun i r h => by simp at h⟩
theorem Tups.mono {vs : List V} {rows : List (List V)} (h : Tups K H vs rows) (f : ∀ a r, SqT K H a r → SqT K H' a r) : Tups K H' vs rows := ⟨h.len, fun i r e => by
  obtain ⟨a, h1, h2⟩ := h.at_ i r e
  exact ⟨a, h1, f a r h2⟩⟩
theorem Tups.same {vs : List V} {rows : List (List V)} (e : Same H H') (h : Tups K H vs rows) : Tups K H' vs rows := h.mono fun _ _ => same_tup e
theorem Tups.upd {vs : List V} {rows : List (List V)} (e : H D = none) (h : Tups K H vs rows) : Tups K (upd H D o) vs rows := h.mono fun _ _ => tup_upd e
theorem Tups.put {vs : List V} {rows : List (List V)} (e : H D = some o) (m : mutO o = true) (h : Tups K H vs rows) : Tups K (L2.upd H D o') vs rows := h.mono fun _ _ => tup_put e m
theorem Tups.snoc {vs : List V} {rows : List (List V)} {r : List V} (h : Tups K H vs rows) (t : SqT K H a r) : Tups K H (vs ++ [.ref a]) (rows ++ [r]) := by
  refine ⟨by simp [h.len], fun i z e => ?_⟩
  by_cases c : i < rows.length
  · rw [List.getElem?_append_left c] at e
    obtain ⟨b, h1, h2⟩ := h.at_ i z e
    exact ⟨b, by rw [List.getElem?_append_left (by rw [h.len]; exact c)]; exact h1, h2⟩
  · rw [List.getElem?_append_right (by omega)] at e
    have ei : i - rows.length = 0 := by
      by_cases z0 : i - rows.length = 0
      · exact z0
      · rw [List.getElem?_eq_none (by simp; omega)] at e
        cases e
    rw [ei] at e
    cases e
    refine ⟨a, ?_, t⟩
    rw [List.getElem?_append_right (by rw [h.len]; omega), h.len, ei]
    rfl
theorem Tups.append {vs us : List V} {rows more : List (List V)} (h : Tups K H vs rows) (g : Tups K H us more) : Tups K H (vs ++ us) (rows ++ more) := by
  refine ⟨by simp [h.len, g.len], fun i z e => ?_⟩
  by_cases c : i < rows.length
  · rw [List.getElem?_append_left c] at e
    obtain ⟨b, h1, h2⟩ := h.at_ i z e
    exact ⟨b, by rw [List.getElem?_append_left (by rw [h.len]; exact c)]; exact h1, h2⟩
  · rw [List.getElem?_append_right (by omega)] at e
    obtain ⟨b, h1, h2⟩ := g.at_ _ z e
    exact ⟨b, by rw [List.getElem?_append_right (by rw [h.len]; omega), h.len]; exact h1, h2⟩
theorem Tups.take {vs : List V} {rows : List (List V)} (h : Tups K H vs rows) (n : Nat) : Tups K H (vs.take n) (rows.take n) := by
  refine ⟨by simp [h.len], fun i z e => ?_⟩
  rw [List.getElem?_take] at e
  split at e
  · rename_i c
    obtain ⟨b, h1, h2⟩ := h.at_ i z e
    exact ⟨b, by rw [List.getElem?_take, if_pos c]; exact h1, h2⟩
  · cases e
theorem Tups.drop {vs : List V} {rows : List (List V)} (h : Tups K H vs rows) (n : Nat) : Tups K H (vs.drop n) (rows.drop n) := by
  refine ⟨by simp [h.len], fun i z e => ?_⟩
  rw [List.getElem?_drop] at e
  obtain ⟨b, h1, h2⟩ := h.at_ _ z e
  exact ⟨b, by rw [List.getElem?_drop]; exact h1, h2⟩
theorem Tups.cons {vs : List V} {rows : List (List V)} {r : List V} (t : SqT K H a r) (h : Tups K H vs rows) : Tups K H (.ref a :: vs) (r :: rows) := by
  refine ⟨by simp [h.len], fun i z e => ?_⟩
  cases i with
  | zero =>
    cases e
    exact ⟨a, rfl, t⟩
  | succ j => exact h.at_ j z e
theorem Tups.of_cons {vs : List V} {rows : List (List V)} {r : List V} (h : Tups K H vs (r :: rows)) : ∃ (a : Addr) (us : List V), vs = V.ref a :: us ∧ SqT K H a r ∧ Tups K H us rows := by
  obtain ⟨a, h1, h2⟩ := h.at_ 0 r rfl
  cases vs with
  | nil => cases h1
  | cons v us =>
    cases h1
    exact ⟨a, us, rfl, h2, by have := h.len; simpa using this, fun i z e => h.at_ (i + 1) z e⟩
theorem Tups.dp : ∀ {rows : List (List V)} {vs : List V}, Tups K H vs rows → (∀ r ∈ rows, r.all flatS = true) → DpAll K H vs (rows.map fun r => .tuple (r.map pd))
  | [], vs, h, _ => by
    have := h.len
    cases vs with
    | nil => exact .nil
    | cons v us => simp at this
  | r :: rows, vs, h, f => by
    obtain ⟨a, us, rfl, t, g⟩ := h.of_cons
    exact .cons (.tup t (dpAll_pd (f r (List.mem_cons_self ..)))) (Tups.dp g fun z hz => f z (List.mem_cons_of_mem _ hz))
end
def eqLL : List (List V) → List (List V) → Bool
  | [], [] => true
  | x :: xs, y :: ys => eqL x y && eqLL xs ys
  | _, _ => false
theorem layRows : ∀ {rows : List (List V)}, (∀ r ∈ rows, r.all flatS = true) → PyData.canLayAll0 (rows.map fun r => PyData.tuple (r.map pd)) = true ∧ PyData.depthAll (rows.map fun r => PyData.tuple (r.map pd)) ≤ 1
  | [], _ => ⟨by simp only [List.map, PyData.canLayAll0], by simp only [List.map, PyData.depthAll]; omega⟩
  | r :: rows, f => by
    have a := layAll_pd (f r (List.mem_cons_self ..))
    have b := layRows fun z hz => f z (List.mem_cons_of_mem r hz)
    simp only [List.map, PyData.canLayAll0, PyData.depthAll, PyData.canLay0, PyData.depth, a.1, a.2, b.1]
    refine ⟨rfl, ?_⟩
    have := b.2
    omega
theorem shapedRows {rows : List (List V)} (f : ∀ r ∈ rows, r.all flatS = true) : SeqAt.shaped (.list (rows.map fun r => PyData.tuple (r.map pd))) = true := by
  have a := layRows f
  unfold SeqAt.shaped
  simp only [PyData.canLay0, PyData.depth, a.1, Bool.true_and]
  exact decide_eq_true (by have := a.2; omega)
theorem eqvRows : ∀ {xs ys : List (List V)}, (∀ r ∈ xs, r.all flatS = true) → (∀ r ∈ ys, r.all flatS = true) → PyData.eqvAll (xs.map fun r => PyData.tuple (r.map pd)) (ys.map fun r => PyData.tuple (r.map pd)) = eqLL xs ys
  | [], [], _, _ => by simp only [List.map, PyData.eqvAll, eqLL]
  | [], _ :: _, _, _ => by simp only [List.map, PyData.eqvAll, eqLL]
  | _ :: _, [], _, _ => by simp only [List.map, PyData.eqvAll, eqLL]
  | x :: xs, y :: ys, h, k => by
    simp only [List.map, PyData.eqvAll, PyData.eqv, eqLL, eqvAll_pd (h x (List.mem_cons_self ..)) (k y (List.mem_cons_self ..)), eqvRows (fun z hz => h z (List.mem_cons_of_mem _ hz)) (fun z hz => k z (List.mem_cons_of_mem _ hz))]
/-- == of ints, texts, and None alone is equality -/
def sharpV : V → Bool
  | .int _ => true
  | .str _ => true
  | .non => true
  | _ => false
theorem eqV_iff {x y : V} (hx : sharpV x = true) (hy : sharpV y = true) : eqV x y = decide (x = y) := by
  cases x <;> first | cases hx | skip
  all_goals cases y <;> first | cases hy | skip
  all_goals first | (rw [Bool.eq_iff_iff]; simp [eqV]) | simp [eqV]
theorem eqL_iff : ∀ {xs ys : List V}, xs.all sharpV = true → ys.all sharpV = true → eqL xs ys = decide (xs = ys)
  | [], [], _, _ => by simp [eqL]
  | [], _ :: _, _, _ => by simp [eqL]
  | _ :: _, [], _, _ => by simp [eqL]
  | x :: xs, y :: ys, h, k => by
    have h2 := Bool.and_eq_true_iff.mp (List.all_cons .. ▸ h)
    have k2 := Bool.and_eq_true_iff.mp (List.all_cons .. ▸ k)
    rw [eqL, eqV_iff h2.1 k2.1, eqL_iff h2.2 k2.2]
    by_cases c1 : x = y <;> by_cases c2 : xs = ys <;> simp [c1, c2]
theorem eqLL_iff : ∀ {xs ys : List (List V)}, (∀ r ∈ xs, r.all sharpV = true) → (∀ r ∈ ys, r.all sharpV = true) → eqLL xs ys = decide (xs = ys)
  | [], [], _, _ => by simp [eqLL]
  | [], _ :: _, _, _ => by simp [eqLL]
  | _ :: _, [], _, _ => by simp [eqLL]
  | x :: xs, y :: ys, h, k => by
    rw [eqLL, eqL_iff (h x (List.mem_cons_self ..)) (k y (List.mem_cons_self ..)), eqLL_iff (fun z hz => h z (List.mem_cons_of_mem _ hz)) (fun z hz => k z (List.mem_cons_of_mem _ hz))]
    by_cases c1 : x = y <;> by_cases c2 : xs = ys <;> simp [c1, c2]
theorem eqLL_self : ∀ {xs : List (List V)}, (∀ r ∈ xs, r.all flatS = true) → eqLL xs xs = true
  | [], _ => rfl
  | x :: xs, h => by rw [eqLL, eqL_self (h x (List.mem_cons_self ..)), eqLL_self (fun z hz => h z (List.mem_cons_of_mem _ hz))]; rfl
section
variable {K : PySem.W.Frag} {H : Hp} {a b : Addr} {vs us : List V} {xs ys : List (List V)} {Q : VK}
theorem eqD_R (h1 : SqL K H a vs) (t1 : Tups K H vs xs) (h2 : SqL K H b us) (t2 : Tups K H us ys) (f1 : ∀ r ∈ xs, r.all flatS = true) (f2 : ∀ r ∈ ys, r.all flatS = true) (q : Q (.bl (eqLL xs ys)) H) : rEqD K (.ref a) (.ref b) H Q := by
  refine ⟨_, _, .lst h1 (t1.dp f1), .lst h2 (t2.dp f2), shapedRows f1, shapedRows f2, ?_⟩
  simp only [PyData.eqv, eqvRows f1 f2]
  exact q
theorem neD_R (h1 : SqL K H a vs) (t1 : Tups K H vs xs) (h2 : SqL K H b us) (t2 : Tups K H us ys) (f1 : ∀ r ∈ xs, r.all flatS = true) (f2 : ∀ r ∈ ys, r.all flatS = true) (q : Q (.bl (!eqLL xs ys)) H) : rNeD K (.ref a) (.ref b) H Q := by
  refine ⟨_, _, .lst h1 (t1.dp f1), .lst h2 (t2.dp f2), shapedRows f1, shapedRows f2, ?_⟩
  simp only [PyData.eqv, eqvRows f1 f2]
  exact q
end
/-! ### rows of ints -/
/-- a tuple of ints -/
def irow (r : List Int) : List V := r.map V.int
theorem irow_flat (r : List Int) : (irow r).all flatS = true := flatI
theorem irow_sharp (r : List Int) : (irow r).all sharpV = true := by
  unfold irow
  rw [List.all_map]
  exact List.all_eq_true.mpr fun _ _ => rfl
theorem irow_inj {r s : List Int} (h : irow r = irow s) : r = s := by
  unfold irow at h
  exact (List.map_inj_right (fun x y e => V.int.inj e)).mp h
theorem irows_flat {rs : List (List Int)} : ∀ r ∈ rs.map irow, r.all flatS = true := by
  intro r h
  obtain ⟨z, _, rfl⟩ := List.mem_map.mp h
  exact irow_flat z
theorem irows_sharp {rs : List (List Int)} : ∀ r ∈ rs.map irow, r.all sharpV = true := by
  intro r h
  obtain ⟨z, _, rfl⟩ := List.mem_map.mp h
  exact irow_sharp z
theorem irows_inj {r s : List (List Int)} (h : r.map irow = s.map irow) : r = s := (List.map_inj_right (fun x y e => irow_inj e)).mp h
theorem eqLL_i {xs ys : List (List Int)} : eqLL (xs.map irow) (ys.map irow) = decide (xs = ys) := by
  rw [eqLL_iff irows_sharp irows_sharp]
  by_cases c : xs = ys
  · rw [decide_eq_true c, decide_eq_true (by rw [c])]
  · rw [decide_eq_false c, decide_eq_false fun z => c (irows_inj z)]
/-! ### cut lists -/
theorem cutV_lo {xs : List V} {k : Nat} (h : k ≤ xs.length) : cutV xs none (some (k : Int)) = xs.take k := by
  unfold cutV
  have e1 : HT.sIx xs.length 0 none = 0 := rfl
  have e2 : HT.sIx xs.length xs.length (some (k : Int)) = k := by
    simp only [HT.sIx]
    split <;> omega
  rw [e1, e2, List.drop_zero, Nat.sub_zero]
theorem cutV_hi {xs : List V} {k : Nat} (h : k ≤ xs.length) : cutV xs (some (k : Int)) none = xs.drop k := by
  unfold cutV
  have e1 : HT.sIx xs.length 0 (some (k : Int)) = k := by
    simp only [HT.sIx]
    split <;> omega
  have e2 : HT.sIx xs.length xs.length none = xs.length := rfl
  rw [e1, e2, List.take_of_length_le (by simp)]
section
variable {K : PySem.W.Frag} {H : Hp} {a p t : Addr} {us : List V} {rows : List (List V)} {r : List V}
theorem Tups.set (h : Tups K H us rows) (t : SqT K H a r) (k : Nat) : Tups K H (us.set k (.ref a)) (rows.set k r) := by
  refine ⟨by simp [h.len], fun i z e => ?_⟩
  rw [List.getElem?_set] at e ⊢
  by_cases c : k = i
  · rw [if_pos c] at e ⊢
    split at e
    · rename_i c2
      rw [if_pos (by rw [h.len]; exact c2)]
      cases e
      exact ⟨a, rfl, t⟩
    · cases e
  · rw [if_neg c] at e ⊢
    exact h.at_ i z e
theorem app_tups {o : List V} (hp : H p = some (.lst o)) (nt : H t = none) (h : Tups K H us rows) {o' : HO} : Tups K (L2.upd (L2.upd H t (.tup r)) p o') (us ++ [.ref t]) (rows ++ [r]) := ((h.upd nt).snoc (t_of upd_same)).put (hp_upd nt hp) rfl
theorem atI_neg1 {xs : List V} {k : Nat} {v : V} (h : xs.length = k + 1) (e : xs[k]? = some v) : atI xs (-1) = some v := by
  unfold atI
  have e1 : ixN xs.length (-1) = some k := by
    unfold ixN
    rw [if_neg (by decide), if_pos (by omega)]
    congr 1
    omega
  rw [e1]
  exact e
theorem ixN_neg1 {n k : Nat} (h : n = k + 1) : ixN n (-1) = some k := by
  unfold ixN
  rw [if_neg (by decide), if_pos (by omega)]
  congr 1
  omega
theorem ixN_nat {n k : Nat} {i : Int} (e : i = k) (h : k < n) : ixN n i = some k := by
  subst e
  unfold ixN
  rw [if_pos (by omega), if_pos (by omega)]
  simp
/-- the tuple at place i -/
theorem Tups.get (h : Tups K H us rows) {i : Nat} (e : rows[i]? = some r) : ∃ a : Addr, atI us (i : Int) = some (V.ref a) ∧ SqT K H a r := by
  obtain ⟨a, h1, h2⟩ := h.at_ i r e
  exact ⟨a, atI_nat h1, h2⟩
theorem Tups.last (h : Tups K H us (rows ++ [r])) : ∃ a : Addr, atI us (-1) = some (V.ref a) ∧ SqT K H a r := by
  obtain ⟨a, h1, h2⟩ := h.at_ rows.length r (by simp)
  exact ⟨a, atI_neg1 (k := rows.length) (by rw [h.len]; simp) h1, h2⟩
end
end LB

namespace My
open PySem PySem.Spec PyProof.Rows L2 LB
local macro_rules | `(tactic| walk_at "sz") => `(tactic| first
  | assumption
  | ((with_reducible apply Sz.mul) <;> walk_at "sz") | ((with_reducible apply Sz.add) <;> walk_at "sz") | ((with_reducible apply Sz.sub) <;> walk_at "sz") | ((with_reducible apply Sz.neg) <;> walk_at "sz")
  | exact Sz.mk (n := 64) (by omega) | exact Sz.mk (n := 201) (by omega) | ((with_reducible apply Sz.div) <;> walk_at "sz") | (with_reducible exact cell_sz (by assumption) _))
local macro_rules | `(tactic| walk_at "cond") => `(tactic| first
  | ((show (0 : Int) < _); first | decide | omega)
  | assumption
  | exact (True.intro : any1 _)
  | exact ty_s
  | ((with_reducible apply ty_l); (walk_at "sq")) | ((with_reducible apply ty_d); (walk_at "hp"))
  | ((with_reducible apply CM.of2) <;> first | walk_at "sz" | decide)
  | ((with_reducible apply CD.of2) <;> first | walk_at "sz" | decide | omega)
  | (with_reducible exact ⟨by decide, by decide, by decide⟩))
local macro_rules | `(tactic| walk_at "len") => `(tactic| first | assumption | exact Nat.lt_of_succ_le (Nat.le_of_ble_eq_true (by rfl)))
local macro_rules | `(tactic| walk_at "hp") => `(tactic| first | assumption | exact upd_same | ((with_reducible apply hp_upd) <;> (walk_at "hp")))
local macro_rules | `(tactic| walk_at "sq0") => `(tactic| first | assumption | exact l_of upd_same | exact t_of upd_same | (apply l_of; (assumption)) | (apply t_of; (assumption)) | walk_at "sqc")
local macro_rules | `(tactic| walk_at "sq1") => `(tactic| first | walk_at "sq0" | (apply lst_upd; (assumption); (walk_at "sq0")) | (apply tup_upd; (assumption); (walk_at "sq0")))
local macro_rules | `(tactic| walk_at "sq2") => `(tactic| first | walk_at "sq0" | (apply lst_upd; (assumption); (walk_at "sq1")) | (apply tup_upd; (assumption); (walk_at "sq1")))
local macro_rules | `(tactic| walk_at "sq3") => `(tactic| first | walk_at "sq0" | (apply lst_upd; (assumption); (walk_at "sq2")) | (apply tup_upd; (assumption); (walk_at "sq2")))
local macro_rules | `(tactic| walk_at "sq4") => `(tactic| first | walk_at "sq0" | (apply lst_upd; (assumption); (walk_at "sq3")) | (apply tup_upd; (assumption); (walk_at "sq3")))
local macro_rules | `(tactic| walk_at "sq5") => `(tactic| first | walk_at "sq0" | (apply lst_upd; (assumption); (walk_at "sq4")) | (apply tup_upd; (assumption); (walk_at "sq4")))
local macro_rules | `(tactic| walk_at "sq6") => `(tactic| first | walk_at "sq0" | (apply lst_upd; (assumption); (walk_at "sq5")) | (apply tup_upd; (assumption); (walk_at "sq5")))
local macro_rules | `(tactic| walk_at "sq7") => `(tactic| first | walk_at "sq0" | (apply lst_upd; (assumption); (walk_at "sq6")) | (apply tup_upd; (assumption); (walk_at "sq6")))
local macro_rules | `(tactic| walk_at "sq8") => `(tactic| first | walk_at "sq0" | (apply lst_upd; (assumption); (walk_at "sq7")) | (apply tup_upd; (assumption); (walk_at "sq7")))
local macro_rules | `(tactic| walk_at "sq") => `(tactic| walk_at "sq8")
local macro_rules | `(tactic| walk_at "rd1") => `(tactic| first
  | refine ⟨_, rfl, ?_⟩
  | refine ⟨_, _, rfl, rfl, ?_⟩
  | refine ⟨rfl, ?_⟩
  | refine .inl ⟨_, rfl, ?_⟩
  | refine .inr ⟨_, rfl, ?_⟩
  | (with_reducible refine tC_go ?_) | (with_reducible refine tNoPart_go ?_)
  | walk_at "call"
  | (apply ixT_go; (walk_at "sq"); (first | assumption | rfl))
  | (apply ixL_go; (walk_at "sq"); (first | assumption | rfl))
  | (apply ixUT_go; (walk_at "sq"); (first | assumption | rfl))
  | (apply ixUL_go; (walk_at "sq"); (first | assumption | rfl))
  | (apply And.intro; (walk_at "cond"))
  | (apply And.intro; (exact Nat.le_of_ble_eq_true (by rfl)); (intro p hp))
  | refine ⟨_, _, _, rfl, (by walk_at "hp"), (by rfl), ?_⟩
  | ((with_reducible apply gTup_go); (walk_at "sq"); (exact rfl))
  | (apply ct_go; (walk_at "hp"); (walk_at "hp"); (first | assumption | exact Nat.le_of_ble_eq_true (by rfl)); (intro p hp))
  | (apply lo_l; (walk_at "sq"); (intro p hp)) | (apply lo_t; (walk_at "sq"); (intro p hp))
  | (apply mn_go) | (apply mx_go) | (apply isB_go) | (apply notB_go)
  | (apply setL_go; (walk_at "hp"); (first | assumption | exact rfl))
  | ((with_reducible apply slL_go); (walk_at "sq"); (intro p hp))
  | (apply inT_go; (walk_at "sq"); (exact rfl); (first | assumption | exact rfl)) | (apply inL_go; (walk_at "sq"); (exact rfl); (first | assumption | exact rfl))
  | (apply niT_go; (walk_at "sq"); (exact rfl); (first | assumption | exact rfl)) | (apply niL_go; (walk_at "sq"); (exact rfl); (first | assumption | exact rfl))
  | (apply app_go; (walk_at "hp"); (walk_at "len"))
  | (apply ln_t; (walk_at "sq")) | (apply ln_l; (walk_at "sq"))
  | (apply iteLen; (with_reducible rfl)) | (apply iteLenN; (with_reducible rfl)) | (apply iteLen; (exact rfl)) | (apply iteLenN; (exact rfl))
  | refine iteT ?_
  | refine iteF ?_
  | (apply isi_go (r := true); (first | exact .base (.int _) | exact .base (.str _) | exact .base (.bl _) | exact .base .non | exact tyx_t (by walk_at "sq") | exact tyx_l (by walk_at "sq")); (decide +kernel))
  | (apply isi_go (r := false); (first | exact .base (.int _) | exact .base (.str _) | exact .base (.bl _) | exact .base .non | exact tyx_t (by walk_at "sq") | exact tyx_l (by walk_at "sq")); (decide +kernel))
  | (apply isX_go; (walk_at "kit"); (walk_at "hp")) | (apply isX_ve; (walk_at "exv"); (walk_at "hp"))
  | (apply gTup_go; (walk_at "sq"); (exact rfl)) | (apply gCons_go) | (apply gNil_go))
local macro_rules | `(tactic| walk_at "rd") => `(tactic| repeat (walk_at "rd1"))

local macro_rules | `(tactic| walk_at "br1") => `(tactic| first
  | refine iteI (fun h => ?_) (fun h => ?_) | refine iteIN (fun h => ?_) (fun h => ?_)
  | refine iteS (fun h => ?_) (fun h => ?_) | refine iteSN (fun h => ?_) (fun h => ?_)
  | refine iteD (fun h => ?_) (fun h => ?_) | refine iteDN (fun h => ?_) (fun h => ?_))
local macro_rules | `(tactic| walk_at "go") => `(tactic| repeat' (first | walk_at "rd1" | walk_at "br1"))
local macro_rules | `(tactic| walk_at "sm0") => `(tactic| first | exact Same.refl _ | assumption)
local macro_rules | `(tactic| walk_at "sm1") => `(tactic| first | walk_at "sm0" | (apply same_new; (walk_at "sm0"); (assumption)) | (refine Same.trans ?_ (by assumption); (walk_at "sm0")))
local macro_rules | `(tactic| walk_at "sm2") => `(tactic| first | walk_at "sm0" | (apply same_new; (walk_at "sm1"); (assumption)) | (refine Same.trans ?_ (by assumption); (walk_at "sm1")))
local macro_rules | `(tactic| walk_at "sm3") => `(tactic| first | walk_at "sm0" | (apply same_new; (walk_at "sm2"); (assumption)) | (refine Same.trans ?_ (by assumption); (walk_at "sm2")))
local macro_rules | `(tactic| walk_at "sm4") => `(tactic| first | walk_at "sm0" | (apply same_new; (walk_at "sm3"); (assumption)) | (refine Same.trans ?_ (by assumption); (walk_at "sm3")))
local macro_rules | `(tactic| walk_at "sm5") => `(tactic| first | walk_at "sm0" | (apply same_new; (walk_at "sm4"); (assumption)) | (refine Same.trans ?_ (by assumption); (walk_at "sm4")))
local macro_rules | `(tactic| walk_at "sm6") => `(tactic| first | walk_at "sm0" | (apply same_new; (walk_at "sm5"); (assumption)) | (refine Same.trans ?_ (by assumption); (walk_at "sm5")))
local macro_rules | `(tactic| walk_at "sm7") => `(tactic| first | walk_at "sm0" | (apply same_new; (walk_at "sm6"); (assumption)) | (refine Same.trans ?_ (by assumption); (walk_at "sm6")))
local macro_rules | `(tactic| walk_at "sm8") => `(tactic| first | walk_at "sm0" | (apply same_new; (walk_at "sm7"); (assumption)) | (refine Same.trans ?_ (by assumption); (walk_at "sm7")))
local macro_rules | `(tactic| walk_at "sm9") => `(tactic| first | walk_at "sm0" | (apply same_new; (walk_at "sm8"); (assumption)) | (refine Same.trans ?_ (by assumption); (walk_at "sm8")))
local macro_rules | `(tactic| walk_at "sm10") => `(tactic| first | walk_at "sm0" | (apply same_new; (walk_at "sm9"); (assumption)) | (refine Same.trans ?_ (by assumption); (walk_at "sm9")))
local macro_rules | `(tactic| walk_at "sm11") => `(tactic| first | walk_at "sm0" | (apply same_new; (walk_at "sm10"); (assumption)) | (refine Same.trans ?_ (by assumption); (walk_at "sm10")))
local macro_rules | `(tactic| walk_at "sm12") => `(tactic| first | walk_at "sm0" | (apply same_new; (walk_at "sm11"); (assumption)) | (refine Same.trans ?_ (by assumption); (walk_at "sm11")))
local macro_rules | `(tactic| walk_at "sm13") => `(tactic| first | walk_at "sm0" | (apply same_new; (walk_at "sm12"); (assumption)) | (refine Same.trans ?_ (by assumption); (walk_at "sm12")))
local macro_rules | `(tactic| walk_at "sm14") => `(tactic| first | walk_at "sm0" | (apply same_new; (walk_at "sm13"); (assumption)) | (refine Same.trans ?_ (by assumption); (walk_at "sm13")))
local macro_rules | `(tactic| walk_at "sm") => `(tactic| walk_at "sm14")

local macro_rules | `(tactic| walk_at "rx") => `(tactic| (dsimp only [tC]; walk_at "rd"))

abbrev P : Program := PySem.Challenge.pw_lendbook_k75_comparisons_are_judged
def top (i : Nat) : Stmt := PySem.Challenge.pw_lendbook_k75_comparisons_are_judged.main.body.getD i (.Pass ⟨0, 0, 0, 0⟩)
abbrev s_sign_of : Stmt := top 1
abbrev s_stretches_of : Stmt := top 2
abbrev s_check_offers : Stmt := top 4
abbrev s__law_cell : Stmt := top 6
abbrev s__law_draw : Stmt := top 7
abbrev s__law_sign : Stmt := top 8
abbrev s__law_runs : Stmt := top 9
abbrev s__law_spoilt : Stmt := top 10
abbrev s_law : Stmt := top 11
theorem sc_sign_of : FnScope ["first", "second"] ["first", "second"] (defScope s_sign_of) := ⟨rfl, rfl, rfl, by decide +kernel, rfl, by decide +kernel, by decide +kernel⟩
theorem sc_stretches_of : FnScope ["first", "second", "stretches", "begun", "signs", "cost", "other", "number"] ["first", "second"] (defScope s_stretches_of) := ⟨rfl, rfl, rfl, by decide +kernel, rfl, by decide +kernel, by decide +kernel⟩
theorem sc_check_offers : FnScope ["parts", "first", "second"] ["parts", "first", "second"] (defScope s_check_offers) := ⟨rfl, rfl, rfl, by decide +kernel, rfl, by decide +kernel, by decide +kernel⟩
theorem sc__law_cell : FnScope ["script", "k"] ["script", "k"] (defScope s__law_cell) := ⟨rfl, rfl, rfl, by decide +kernel, rfl, by decide +kernel, by decide +kernel⟩
theorem sc__law_draw : FnScope ["cell", "limits", "row", "rest", "great", "k", "mixed"] ["cell", "limits"] (defScope s__law_draw) := ⟨rfl, rfl, rfl, by decide +kernel, rfl, by decide +kernel, by decide +kernel⟩
theorem sc__law_sign : FnScope ["x"] ["x"] (defScope s__law_sign) := ⟨rfl, rfl, rfl, by decide +kernel, rfl, by decide +kernel, by decide +kernel⟩
theorem sc__law_runs : FnScope ["first", "second", "parts", "m", "sign"] ["first", "second"] (defScope s__law_runs) := ⟨rfl, rfl, rfl, by decide +kernel, rfl, by decide +kernel, by decide +kernel⟩
theorem sc__law_spoilt : FnScope ["parts", "k", "sign", "wrong", "part", "middle"] ["parts", "k", "sign"] (defScope s__law_spoilt) := ⟨rfl, rfl, rfl, by decide +kernel, rfl, by decide +kernel, by decide +kernel⟩
theorem sc_law : FnScope ["script", "limit", "first", "k", "second", "cost", "parts", "sign", "wrong"] ["script"] (defScope s_law) := ⟨rfl, rfl, rfl, by decide +kernel, rfl, by decide +kernel, by decide +kernel⟩
structure Txt (K : PySem.W.Frag) (mg : Str → Option Value) : Type where
  a_sign_of : Addr
  fd_sign_of : FuncData
  F_sign_of : FunD K "sign_of" "sign_of" (defArgs s_sign_of) (defBody s_sign_of) (defScope s_sign_of) [] [] a_sign_of fd_sign_of
  m_sign_of : mg "sign_of" = some (.ref a_sign_of)
  b_sign_of : Binds K fd_sign_of ["first", "second"] []
  a_stretches_of : Addr
  fd_stretches_of : FuncData
  F_stretches_of : FunD K "stretches_of" "stretches_of" (defArgs s_stretches_of) (defBody s_stretches_of) (defScope s_stretches_of) [] [] a_stretches_of fd_stretches_of
  m_stretches_of : mg "stretches_of" = some (.ref a_stretches_of)
  b_stretches_of : Binds K fd_stretches_of ["first", "second"] []
  a_check_offers : Addr
  fd_check_offers : FuncData
  F_check_offers : FunD K "check_offers" "check_offers" (defArgs s_check_offers) (defBody s_check_offers) (defScope s_check_offers) [] [] a_check_offers fd_check_offers
  m_check_offers : mg "check_offers" = some (.ref a_check_offers)
  b_check_offers : Binds K fd_check_offers ["parts", "first", "second"] []
  a__law_cell : Addr
  fd__law_cell : FuncData
  F__law_cell : FunD K "_law_cell" "_law_cell" (defArgs s__law_cell) (defBody s__law_cell) (defScope s__law_cell) [] [] a__law_cell fd__law_cell
  m__law_cell : mg "_law_cell" = some (.ref a__law_cell)
  b__law_cell : Binds K fd__law_cell ["script", "k"] []
  a__law_draw : Addr
  fd__law_draw : FuncData
  F__law_draw : FunD K "_law_draw" "_law_draw" (defArgs s__law_draw) (defBody s__law_draw) (defScope s__law_draw) [] [] a__law_draw fd__law_draw
  m__law_draw : mg "_law_draw" = some (.ref a__law_draw)
  b__law_draw : Binds K fd__law_draw ["cell", "limits"] []
  a__law_sign : Addr
  fd__law_sign : FuncData
  F__law_sign : FunD K "_law_sign" "_law_sign" (defArgs s__law_sign) (defBody s__law_sign) (defScope s__law_sign) [] [] a__law_sign fd__law_sign
  m__law_sign : mg "_law_sign" = some (.ref a__law_sign)
  b__law_sign : Binds K fd__law_sign ["x"] []
  a__law_runs : Addr
  fd__law_runs : FuncData
  F__law_runs : FunD K "_law_runs" "_law_runs" (defArgs s__law_runs) (defBody s__law_runs) (defScope s__law_runs) [] [] a__law_runs fd__law_runs
  m__law_runs : mg "_law_runs" = some (.ref a__law_runs)
  b__law_runs : Binds K fd__law_runs ["first", "second"] []
  a__law_spoilt : Addr
  fd__law_spoilt : FuncData
  F__law_spoilt : FunD K "_law_spoilt" "_law_spoilt" (defArgs s__law_spoilt) (defBody s__law_spoilt) (defScope s__law_spoilt) [] [] a__law_spoilt fd__law_spoilt
  m__law_spoilt : mg "_law_spoilt" = some (.ref a__law_spoilt)
  b__law_spoilt : Binds K fd__law_spoilt ["parts", "k", "sign"] []
  a_law : Addr
  fd_law : FuncData
  F_law : FunD K "law" "law" (defArgs s_law) (defBody s_law) (defScope s_law) [] [] a_law fd_law
  m_law : mg "law" = some (.ref a_law)
  b_law : Binds K fd_law ["script"] []
  z_range : mg "range" = none
  z_zip : mg "zip" = none
  z_len : mg "len" = none
  z_list : mg "list" = none
  z_abs : mg "abs" = none
  z_int : mg "int" = none
  z_min : mg "min" = none
section
variable {w : World} {K : PySem.W.Frag} {mg : Str → Option Value} {base : Heap}

/-! ### _law_draw -/
/-- the size of a number -/
def ab (c : Int) : Int := if c < 0 then -c else c
theorem ab_nn (c : Int) : 0 ≤ ab c := by unfold ab; split <;> omega
/-- the rest before the i-th limit -/
def dRest (c : Int) (ls : List Int) : Nat → Int
  | 0 => ab c
  | i + 1 => if 1000000000000000000 ≤ ab c ∧ ls.getD i 0 ≤ dRest c ls i then dRest c ls i / ls.getD i 0 else dRest c ls i
def dMix (c : Int) (i : Nat) : Int := ((ab c * 48271 + (0 + (i : Int) + 1) * 69621) % 2147483647 * 16807 + (0 + (i : Int) + 1) * 40692) % 2147483399
/-- the i-th number drawn -/
def dVal (c : Int) (ls : List Int) (i : Nat) : Int :=
  if 1000000000000000000 ≤ ab c ∧ ls.getD i 0 ≤ dRest c ls i then dRest c ls i % ls.getD i 0 else dMix c i % ls.getD i 0
def draw (c : Int) (ls : List Int) : List Int := (List.range ls.length).map (dVal c ls)
theorem dVal_nn (c : Int) (ls : List Int) (i : Nat) (h : 0 < ls.getD i 0) : 0 ≤ dVal c ls i ∧ dVal c ls i < ls.getD i 0 := by
  unfold dVal
  by_cases hh : 1000000000000000000 ≤ ab c ∧ ls.getD i 0 ≤ dRest c ls i
  · rw [if_pos hh]
    exact ⟨Int.emod_nonneg _ (by omega), Int.emod_lt_of_pos _ h⟩
  · rw [if_neg hh]
    exact ⟨Int.emod_nonneg _ (by omega), Int.emod_lt_of_pos _ h⟩
theorem dRest_sz {c : Int} (ls : List Int) (h : Sz 1048576 c) : ∀ i, Sz 1048576 (dRest c ls i)
  | 0 => h.absv
  | i + 1 => by
    unfold dRest
    by_cases hh : 1000000000000000000 ≤ ab c ∧ ls.getD i 0 ≤ dRest c ls i
    · rw [if_pos hh]; exact (dRest_sz ls h i).div
    · rw [if_neg hh]; exact dRest_sz ls h i
theorem dRest_nn (c : Int) (ls : List Int) (h : ∀ z ∈ ls, 0 < z) : ∀ i, 0 ≤ dRest c ls i
  | 0 => ab_nn c
  | i + 1 => by
    have ih := dRest_nn c ls h i
    unfold dRest
    by_cases hh : 1000000000000000000 ≤ ab c ∧ ls.getD i 0 ≤ dRest c ls i
    · rw [if_pos hh, List.getD_eq_getElem?_getD]
      cases e : ls[i]? with
      | none => simp
      | some z => exact Int.ediv_nonneg ih (Int.le_of_lt (h z (List.mem_of_getElem? e)))
    · rw [if_neg hh]; exact ih
@[irreducible] def sp__law_draw (K : PySem.W.Frag) : Sp := fun vs H Q _ => ∃ (c : Int) (p : Addr) (ls : List Int), vs = [.int c, .ref p] ∧ SqL K H p (ls.map V.int) ∧ Sz 1048576 c ∧ (∀ z ∈ ls, 0 < z ∧ Sz 64 z) ∧ ls.length ≤ 1000 ∧
  ∀ r H', Same H H' → H r = none → H' r = some (.lst ((draw c ls).map V.int)) → Q (.ref r) H'
theorem ok__law_draw (T : Txt K mg) : FnOk P w K mg base (L2.CX P w) 1 T.a__law_draw T.fd__law_draw ["cell", "limits"] (sp__law_draw K) := by
  refine T.F__law_draw.ok sc__law_draw (fun vs H Q E h => ?_) (fun cdv A outer s H vs Q E hr h => ?_)
  · unfold sp__law_draw at h
    obtain ⟨c, p, ls, rfl, _⟩ := h
    rfl
  · unfold sp__law_draw at h
    obtain ⟨c, p, ls, rfl, hp, hc, hl, hn, q⟩ := h
    refine ⟨_, (pss_cons (ps_set (i := 2) sc__law_draw.nd rfl (Or.inl rfl) (pe_lst pa_nil))
    (pss_cons (ps_set (i := 3) sc__law_draw.nd rfl (Or.inl rfl) (pe_callB call_abs rfl T.z_abs bt_abs (pa_cons (pv 0) pa_nil)))
    (pss_cons (ps_set (i := 4) sc__law_draw.nd rfl (Or.inl rfl) (pe_cmpR op_ge (pv 3) pe_int (nomark _)))
    (pss_cons (ps_for (passes_of rfl) rfl (pi_range1 rfl T.z_range (pa_cons (pe_callB call_ln rfl T.z_len bt_len (pa_cons (pv 1) pa_nil)) pa_nil)) (pg_name (i := 5) sc__law_draw.nd rfl (Or.inl rfl))
      (pss_one (ps_if (PW.pt (pw_and (pt_val (pv 4)) (pw_and1 (pt_cmpR op_ge (pv 3) (pe_ix ix_list (pv 1) (pv 5) (fun _ _ => rfl)) (nomark _))))) (pss_cons (ps_expr (pe_bm PySem.F.plainAttrs_list PySem.F.slot_list_append PySem.F.type_list_append mt_app (pv 2) (pa_cons (pe_op op_mod (pe_callTy call_int1 rfl T.z_int bt_int (pa_cons (pv 3) pa_nil)) (pe_ix ix_list (pv 1) (pv 5) (fun _ _ => rfl))) pa_nil)))
        (pss_one (ps_set (i := 3) sc__law_draw.nd rfl (Or.inl rfl) (pe_op op_fdivB (pv 3) (pe_ix ix_list (pv 1) (pv 5) (fun _ _ => rfl)))))) (pss_cons (ps_set (i := 6) sc__law_draw.nd rfl (Or.inl rfl) (pe_op op_mod (pe_callTy call_int1 rfl T.z_int bt_int (pa_cons (pe_op op_add (pe_op op_mulB (pe_callB call_abs rfl T.z_abs bt_abs (pa_cons (pv 0) pa_nil)) pe_int) (pe_op op_mulB (pe_op op_add (pv 5) pe_int) pe_int)) pa_nil)) pe_int))
        (pss_cons (ps_set (i := 6) sc__law_draw.nd rfl (Or.inl rfl) (pe_op op_mod (pe_callTy call_int1 rfl T.z_int bt_int (pa_cons (pe_op op_add (pe_op op_mulB (pv 6) pe_int) (pe_op op_mulB (pe_op op_add (pv 5) pe_int) pe_int)) pa_nil)) pe_int))
        (pss_one (ps_expr (pe_bm PySem.F.plainAttrs_list PySem.F.slot_list_append PySem.F.type_list_append mt_app (pv 2) (pa_cons (pe_op op_mod (pe_callTy call_int1 rfl T.z_int bt_int (pa_cons (pv 6) pa_nil)) (pe_ix ix_list (pv 1) (pv 5) (fun _ _ => rfl))) pa_nil)))))))))
    (pss_one (ps_ret (pv 2))))))), ?_⟩
    walk_at "rd"
    rename_i r nr
    rw [map_len]
    have hpos : ∀ i, i < ls.length → 0 < ls.getD i 0 ∧ Sz 64 (ls.getD i 0) := fun i hi => by
      rw [List.getD_eq_getElem?_getD, List.getElem?_eq_getElem hi]
      exact hl _ (List.getElem_mem hi)
    refine ⟨by omega, by omega, for_range (n := ls.length) (fun i σ H' => ∃ k m : Option V, σ = [some (.int c), some (.ref p), some (.ref r), some (.int (dRest c ls i)), some (.bl (decide (1000000000000000000 ≤ ab c))), k, m] ∧ Same H H' ∧ H' r = some (.lst (((List.range i).map (dVal c ls)).map V.int)))
      ⟨none, none, rfl, same_new (Same.refl H) nr, upd_same⟩ ?_ ?_⟩
    · rintro i σ H' hi ⟨k, m, rfl, s1, e1⟩
      have hp' := same_lst s1 hp
      have hx := hpos i hi
      have hle : i < 1000 := by omega
      have hzr := dRest_sz ls hc i
      have hab : Sz 1048576 (if c < 0 then -c else c) := hc.absv
      have hmi : Sz 64 (dMix c i) := ⟨by unfold dMix; omega⟩
      walk_at "rd"
      have hlen : (((List.range i).map (dVal c ls)).map V.int).length < sizeLine := by
        rw [List.length_map, List.length_map, List.length_range, sizeLine_eq]
        omega
      have hi62 : Sz 12 (0 + (i : Int)) := ⟨by omega⟩
      have fin : ∀ (y ρ : Int) (k' m' : Option V), dVal c ls i = y → dRest c ls (i + 1) = ρ → ∃ k'' m'' : Option V, [some (V.int c), some (.ref p), some (.ref r), some (.int ρ), some (.bl (decide (1000000000000000000 ≤ ab c))), k', m'] = [some (.int c), some (.ref p), some (.ref r), some (.int (dRest c ls (i + 1))), some (.bl (decide (1000000000000000000 ≤ ab c))), k'', m''] ∧ Same H (upd H' r (.lst (((List.range i).map (dVal c ls)).map V.int ++ [.int y]))) ∧ upd H' r (.lst (((List.range i).map (dVal c ls)).map V.int ++ [.int y])) r = some (.lst (((List.range (i + 1)).map (dVal c ls)).map V.int)) := fun y ρ k' m' e1 e2 =>
        ⟨k', m', by rw [e2], same_set s1 nr, by rw [upd_same, range_snoc e1]⟩
      have hix : atI (ls.map V.int) (0 + ((i : Nat) : Int)) = some (V.int (ls.getD i 0)) := atI_map hi
      have hx1 := hx.1
      have hx2 := hx.2
      refine iteD (fun hg => ?_) (fun hg => ?_)
      · walk_at "rd"
        refine iteD (fun hge => ?_) (fun hge => ?_)
        · have a1 : dVal c ls i = dRest c ls i % ls.getD i 0 := if_pos ⟨hg, hge⟩
          have a2 : dRest c ls (i + 1) = dRest c ls i / ls.getD i 0 := if_pos ⟨hg, hge⟩
          have cd := CD.of (i := dRest c ls i) hx.1 hx.2
          have hp'' := same_lst (same_set (o := .lst (((List.range i).map (dVal c ls)).map V.int ++ [.int (dRest c ls i % ls.getD i 0)])) s1 nr) hp
          walk_at "rd"
          exact fin _ _ _ _ a1 a2
        · have a1 : dVal c ls i = dMix c i % ls.getD i 0 := if_neg fun z => hge z.2
          have a2 : dRest c ls (i + 1) = dRest c ls i := if_neg fun z => hge z.2
          walk_at "rd"
          exact fin _ _ _ _ a1 a2
      · have a1 : dVal c ls i = dMix c i % ls.getD i 0 := if_neg fun z => hg z.1
        have a2 : dRest c ls (i + 1) = dRest c ls i := if_neg fun z => hg z.1
        walk_at "rd"
        exact fin _ _ _ _ a1 a2
    · rintro σ H' ⟨k, m, rfl, s1, e1⟩
      walk_at "rd"
      exact q r H' s1 nr e1
theorem draw_go {H : Hp} {Q : VK} {E : XK} {c : Int} {p : Addr} {ls : List Int} (hp : SqL K H p (ls.map V.int)) (hc : Sz 1048576 c) (hl : ∀ z ∈ ls, 0 < z ∧ Sz 64 z) (hn : ls.length ≤ 1000)
    (q : ∀ r H', Same H H' → H r = none → H' r = some (.lst ((draw c ls).map V.int)) → Q (.ref r) H') : sp__law_draw K [.int c, .ref p] H Q E := by
  unfold sp__law_draw
  exact ⟨c, p, ls, rfl, hp, hc, hl, hn, q⟩
theorem draw_rep {c v : Int} (n : Nat) (hv : 0 < v) : (draw c (List.replicate n v)).length = n ∧ ∀ z ∈ draw c (List.replicate n v), 0 ≤ z ∧ z < v := by
  unfold draw
  refine ⟨by rw [List.length_map, List.length_range, List.length_replicate], fun z hz => ?_⟩
  obtain ⟨i, hi, rfl⟩ := List.mem_map.mp hz
  rw [List.mem_range, List.length_replicate] at hi
  have e : (List.replicate n v).getD i 0 = v := by
    rw [List.getD_eq_getElem?_getD, List.getElem?_replicate, if_pos hi]
    rfl
  have h2 := dVal_nn c (List.replicate n v) i (by rw [e]; exact hv)
  rw [e] at h2
  exact h2
/-- n numbers below v -/
theorem draw_rep_go {H : Hp} {Q : VK} {E : XK} {c v : Int} {n : Nat} {p : Addr} (hp : H p = some (.lst ((List.range n).map fun _ => .int v))) (hc : Sz 1048576 c) (hv : 0 < v) (hv2 : v < 18446744073709551616) (hn : n ≤ 1000)
    (q : ∀ (r : Addr) (ds : List Int) (H' : Hp), Same H H' → H r = none → H' r = some (.lst (ds.map V.int)) → ds.length = n → (∀ z ∈ ds, 0 ≤ z ∧ z < v) → Q (.ref r) H') : sp__law_draw K [.int c, .ref p] H Q E := by
  rw [range_rep] at hp
  have := draw_rep (c := c) n hv
  refine draw_go (l_of hp) hc (fun z hz => ?_) (by rw [List.length_replicate]; exact hn) fun r H' s hr e => q r _ H' s hr e this.1 this.2
  rw [List.mem_replicate] at hz
  rw [hz.2]
  exact ⟨hv, ⟨by omega⟩⟩

/-! ### _law_sign -/
def sgn (x : Int) : Int := (if 0 < x then 1 else 0) - (if x < 0 then 1 else 0)
def sp__law_sign : Sp := fun vs H Q _ => ∃ (x : Int), vs = [.int x] ∧ Q (.int (sgn x)) H
theorem ok__law_sign (T : Txt K mg) : FnOk P w K mg base (L2.CX P w) 1 T.a__law_sign T.fd__law_sign ["x"] sp__law_sign := by
  refine T.F__law_sign.ok sc__law_sign (fun vs H Q E h => ?_) (fun cdv A outer s H vs Q E hr h => ?_)
  · obtain ⟨x, rfl, _⟩ := h
    rfl
  · obtain ⟨x, rfl, q⟩ := h
    refine ⟨_, (pss_one (ps_ret (pe_op op_sub (pe_callTy call_int1 rfl T.z_int bt_int (pa_cons (pe_cmpR op_gt (pv 0) pe_int (nomark _)) pa_nil)) (pe_callTy call_int1 rfl T.z_int bt_int (pa_cons (pe_cmpR op_lt (pv 0) pe_int (nomark _)) pa_nil))))), ?_⟩
    refine ⟨_, rfl, _, _, rfl, rfl, .inr ⟨_, rfl, _, rfl, _, _, rfl, rfl, .inr ⟨_, rfl, _, _, rfl, rfl, ?_⟩⟩⟩
    have e1 : ∀ p : Prop, [Decidable p] → (if decide p = true then (1 : Int) else 0) = if p then 1 else 0 := fun p _ => by by_cases h : p <;> simp [h]
    rw [e1, e1]
    exact q
/-- the sign of a difference -/
def sg2 (a b : Int) : Int := if a < b then -1 else if b < a then 1 else 0
/-! ### the runs of a list of signs -/
mutual
def begun (ss : List Int) : Nat → Nat
  | 0 => 0
  | i + 1 => if ss.getD (i + 1) 0 = ss.getD (begun ss i) 0 then begun ss i else i + 1
end
def done (ss : List Int) : Nat → List (List Int)
  | 0 => []
  | i + 1 => if ss.getD (i + 1) 0 = ss.getD (begun ss i) 0 then done ss i else done ss i ++ [[(begun ss i : Int), (i : Int), ss.getD (begun ss i) 0]]
def runs (ss : List Int) : Nat → List (List Int)
  | 0 => []
  | i + 1 => done ss i ++ [[(begun ss i : Int), (i : Int), ss.getD (begun ss i) 0]]
theorem begun_le (ss : List Int) : ∀ i, begun ss i ≤ i
  | 0 => Nat.le_refl _
  | i + 1 => by
    have := begun_le ss i
    unfold begun
    split <;> omega
theorem done_at (ss : List Int) : ∀ i, ∀ r ∈ done ss i, ∃ b e k : Nat, r = [(b : Int), (e : Int), ss.getD k 0] ∧ b < begun ss i ∧ k ≤ i
  | 0, r, h => by cases h
  | i + 1, r, h => by
    unfold done at h
    unfold begun
    by_cases c : ss.getD (i + 1) 0 = ss.getD (begun ss i) 0
    · rw [if_pos c] at h ⊢
      obtain ⟨b, e, k, h1, h2, h3⟩ := done_at ss i r h
      exact ⟨b, e, k, h1, h2, by omega⟩
    · rw [if_neg c] at h ⊢
      have hb := begun_le ss i
      rcases List.mem_append.mp h with h | h
      · obtain ⟨b, e, k, h1, h2, h3⟩ := done_at ss i r h
        exact ⟨b, e, k, h1, by omega, by omega⟩
      · rw [List.mem_singleton] at h
        exact ⟨_, _, _, h, by omega, by omega⟩
theorem done_pw (ss : List Int) : ∀ i, (done ss i).Pairwise (fun r s => r.getD 0 0 < s.getD 0 0)
  | 0 => List.Pairwise.nil
  | i + 1 => by
    unfold done
    split
    · exact done_pw ss i
    · refine List.pairwise_append.mpr ⟨done_pw ss i, List.pairwise_singleton .., fun r hr s hs => ?_⟩
      obtain ⟨b, e, k, rfl, h2, _⟩ := done_at ss i r hr
      rw [List.mem_singleton] at hs
      subst hs
      show (b : Int) < (begun ss i : Int)
      omega
theorem runs_pw (ss : List Int) : ∀ i, (runs ss i).Pairwise (fun r s => r.getD 0 0 < s.getD 0 0)
  | 0 => List.Pairwise.nil
  | i + 1 => by
    unfold runs
    refine List.pairwise_append.mpr ⟨done_pw ss i, List.pairwise_singleton .., fun r hr s hs => ?_⟩
    obtain ⟨b, e, k, rfl, h2, _⟩ := done_at ss i r hr
    rw [List.mem_singleton] at hs
    subst hs
    show (b : Int) < (begun ss i : Int)
    omega
theorem runs_at (ss : List Int) (n : Nat) : ∀ r ∈ runs ss n, ∃ b e k : Nat, r = [(b : Int), (e : Int), ss.getD k 0] ∧ k < n := by
  intro r h
  cases n with
  | zero => cases h
  | succ i =>
    unfold runs at h
    rcases List.mem_append.mp h with h | h
    · obtain ⟨b, e, k, h1, h2, h3⟩ := done_at ss i r h
      exact ⟨b, e, k, h1, by omega⟩
    · rw [List.mem_singleton] at h
      exact ⟨_, _, _, h, by have := begun_le ss i; omega⟩
theorem done_len (ss : List Int) : ∀ i, (done ss i).length ≤ i
  | 0 => Nat.le_refl _
  | i + 1 => by
    have := done_len ss i
    unfold done
    split
    · omega
    · rw [List.length_append, List.length_singleton]; omega
theorem runs_len (ss : List Int) : ∀ i, (runs ss i).length ≤ i
  | 0 => Nat.le_refl _
  | i + 1 => by
    have := done_len ss i
    unfold runs
    rw [List.length_append, List.length_singleton]; omega
theorem runs_pos (ss : List Int) (n : Nat) (h : 0 < n) : 0 < (runs ss n).length := by
  cases n with
  | zero => omega
  | succ i =>
    unfold runs
    rw [List.length_append, List.length_singleton]; omega
/-- the next run: the last one grows -/
theorem runs_grow {ss : List Int} {i : Nat} (c : ss.getD (i + 1) 0 = ss.getD (begun ss i) 0) : runs ss (i + 2) = done ss i ++ [[(begun ss i : Int), ((i + 1 : Nat) : Int), ss.getD (begun ss i) 0]] := by
  show done ss (i + 1) ++ [[(begun ss (i + 1) : Int), ((i + 1 : Nat) : Int), ss.getD (begun ss (i + 1)) 0]] = _
  rw [done, begun, if_pos c, if_pos c]
theorem runs_new {ss : List Int} {i : Nat} (c : ss.getD (i + 1) 0 ≠ ss.getD (begun ss i) 0) : runs ss (i + 2) = runs ss (i + 1) ++ [[((i + 1 : Nat) : Int), ((i + 1 : Nat) : Int), ss.getD (i + 1) 0]] := by
  show done ss (i + 1) ++ [[(begun ss (i + 1) : Int), ((i + 1 : Nat) : Int), ss.getD (begun ss (i + 1)) 0]] = _
  rw [done, begun, if_neg c, if_neg c]
  rfl
/-- the signs of the differences -/
def sgs (xs ys : List Int) : List Int := (xs.zip ys).map fun p => sg2 p.1 p.2
theorem sgs_len {xs ys : List Int} : (sgs xs ys).length = min xs.length ys.length := by
  unfold sgs
  rw [List.length_map, List.length_zip]
theorem sgs_at {xs ys : List Int} {i : Nat} (h1 : i < xs.length) (h2 : i < ys.length) : (sgs xs ys).getD i 0 = sg2 (xs.getD i 0) (ys.getD i 0) := by
  have h : i < (sgs xs ys).length := by rw [sgs_len]; omega
  rw [List.getD_eq_getElem?_getD, List.getElem?_eq_getElem h, List.getD_eq_getElem?_getD, List.getElem?_eq_getElem h1, List.getD_eq_getElem?_getD, List.getElem?_eq_getElem h2]
  show (sgs xs ys)[i] = sg2 xs[i] ys[i]
  simp only [sgs, List.getElem_map, List.getElem_zip]
theorem sgs_tri (xs ys : List Int) (k : Nat) : (sgs xs ys).getD k 0 = 1 ∨ (sgs xs ys).getD k 0 = 0 ∨ (sgs xs ys).getD k 0 = -1 := by
  rw [List.getD_eq_getElem?_getD]
  cases e : (sgs xs ys)[k]? with
  | none => exact .inr (.inl rfl)
  | some z =>
    unfold sgs at e
    rw [List.getElem?_map] at e
    cases e2 : (xs.zip ys)[k]? with
    | none => rw [e2] at e; cases e
    | some p =>
      rw [e2] at e
      cases e
      show sg2 p.1 p.2 = 1 ∨ sg2 p.1 p.2 = 0 ∨ sg2 p.1 p.2 = -1
      unfold sg2
      split
      · exact .inr (.inr rfl)
      · split
        · exact .inl rfl
        · exact .inr (.inl rfl)
theorem sgn_sg2 (a b : Int) : sgn (a - b) = sg2 a b := by
  unfold sgn sg2
  split <;> split <;> split <;> omega
/-- the runs of two lists of costs -/
def runsOf (xs ys : List Int) : List (List Int) := runs (sgs xs ys) (sgs xs ys).length

/-! ### _law_runs -/
@[irreducible] def sp__law_runs (K : PySem.W.Frag) : Sp := fun vs H Q E => ∃ (a : Addr) (b : Addr) (xs : List Int) (ys : List Int), vs = [.ref a, .ref b] ∧ SqL K H a (xs.map V.int) ∧ SqL K H b (ys.map V.int) ∧ xs.length ≤ 1000 ∧ ys.length ≤ 1000 ∧
  (∀ r us H', Same H H' → H r = none → H' r = some (.lst us) → Tups K H' us ((runsOf xs ys).map irow) → Q (.ref r) H')
theorem ok__law_runs (T : Txt K mg) : FnOk P w K mg base (L2.CX P w) 2 T.a__law_runs T.fd__law_runs ["first", "second"] (sp__law_runs K) := by
  refine T.F__law_runs.ok sc__law_runs (fun vs H Q E h => ?_) (fun cdv A outer s H vs Q E hr h => ?_)
  · unfold sp__law_runs at h
    obtain ⟨a, b, xs, ys, rfl, _⟩ := h
    rfl
  · unfold sp__law_runs at h
    obtain ⟨a, b, xs, ys, rfl, ha, hb, hx, hy, q⟩ := h
    refine ⟨_, (pss_cons (ps_set (i := 2) sc__law_runs.nd rfl (Or.inl rfl) (pe_lst pa_nil))
    (pss_cons (ps_for (passes_of rfl) rfl (pi_range1 rfl T.z_range (pa_cons (pe_callB (call_mn rfl) rfl T.z_min bt_min (pa_cons (pe_callB call_ln rfl T.z_len bt_len (pa_cons (pv 0) pa_nil)) (pa_cons (pe_callB call_ln rfl T.z_len bt_len (pa_cons (pv 1) pa_nil)) pa_nil))) pa_nil)) (pg_name (i := 3) sc__law_runs.nd rfl (Or.inl rfl))
      (pss_cons (ps_set (i := 4) sc__law_runs.nd rfl (Or.inl rfl) (pe_callS (ok__law_sign T) (hr.mono (by decide)) rfl T.m__law_sign T.F__law_sign.kp T.b__law_sign (fun σ => passAt (takes_of rfl rfl rfl rfl) σ) (pa_cons (pe_op op_sub (pe_ix ix_list (pv 0) (pv 3) (fun _ _ => rfl)) (pe_ix ix_list (pv 1) (pv 3) (fun _ _ => rfl))) pa_nil)))
      (pss_one (ps_cut (ps_if (PW.pt (pw_and (pt_cmpR op_gt (pe_callB call_ln rfl T.z_len bt_len (pa_cons (pv 2) pa_nil)) pe_int (nomark _)) (pw_and1 (pt_cmpR op_eq (pe_ix ix_tup (pe_ix ix_list (pv 2) (pe_un un_neg pe_int) (fun _ _ => rfl)) pe_int (fun _ _ => rfl)) (pv 4) (nomark _))))) (pss_one (ps_asg (pe_tup (pa_cons (pe_ix ix_tup (pe_ix ix_list (pv 2) (pe_un un_neg pe_int) (fun _ _ => rfl)) pe_int (fun _ _ => rfl)) (pa_cons (pv 3) (pa_cons (pv 4) pa_nil)))) (pg_sub (pv 2) (pe_un un_neg pe_int) set_li))) (pss_one (ps_expr (pe_bm PySem.F.plainAttrs_list PySem.F.slot_list_append PySem.F.type_list_append mt_app (pv 2) (pa_cons (pe_tup (pa_cons (pv 3) (pa_cons (pv 3) (pa_cons (pv 4) pa_nil)))) pa_nil)))))))))
    (pss_one (ps_ret (pv 2))))), ?_⟩
    walk_at "rd"
    rename_i p np
    rw [map_len, map_len]
    have hl : (sgs xs ys).length = min xs.length ys.length := sgs_len
    have hmin : (if ((ys.length : Nat) : Int) < ((xs.length : Nat) : Int) then ((ys.length : Nat) : Int) else ((xs.length : Nat) : Int)) = (((sgs xs ys).length : Nat) : Int) := by
      rw [hl]
      split <;> omega
    rw [hmin]
    refine ⟨by omega, by omega, for_range (n := (sgs xs ys).length) (fun i σ H' => ∃ (us : List V) (m s : Option V), σ = [some (.ref a), some (.ref b), some (.ref p), m, s] ∧ Same H H' ∧ H' p = some (.lst us) ∧ Tups K H' us ((runs (sgs xs ys) i).map irow)) ⟨[], none, none, rfl, same_new (Same.refl H) np, upd_same, Tups.nil⟩ ?_ ?_⟩
    · rintro i σ H2 hi ⟨us, m, s, rfl, s2, ep, tu⟩
      have hg := sgs_at (xs := xs) (ys := ys) (i := i) (by omega) (by omega)
      have ha2 := same_lst s2 ha
      have hb2 := same_lst s2 hb
      have ix1 : atI (xs.map V.int) (0 + (i : Int)) = some (V.int (xs.getD i 0)) := atI_map (by omega)
      have ix2 : atI (ys.map V.int) (0 + (i : Int)) = some (V.int (ys.getD i 0)) := atI_map (by omega)
      walk_at "rd"
      rw [sgn_sg2, ← hg]
      have hlen := runs_len (sgs xs ys) i
      have hus : us.length < sizeLine := by
        rw [tu.len, List.length_map, sizeLine_eq]
        omega
      have LP := l_of (K := K) ep
      refine ⟨fun σ' H' => Wall (∃ (us : List V) (m s : Option V), σ' = [some (.ref a), some (.ref b), some (.ref p), m, s] ∧ Same H H' ∧ H' p = some (.lst us) ∧ Tups K H' us ((runs (sgs xs ys) (i + 1)).map irow)), ?_, ?_⟩
      · walk_at "rd"
        have new : ∀ t, H2 t = none → (runs (sgs xs ys) (i + 1) = runs (sgs xs ys) i ++ [[(i : Int), (i : Int), (sgs xs ys).getD i 0]]) → ∃ (us' : List V) (m s : Option V), [some (V.ref a), some (.ref b), some (.ref p), some (.int (0 + (i : Int))), some (.int ((sgs xs ys).getD i 0))] = [some (.ref a), some (.ref b), some (.ref p), m, s] ∧ Same H (upd (upd H2 t (.tup [.int (0 + (i : Int)), .int (0 + (i : Int)), .int ((sgs xs ys).getD i 0)])) p (.lst (us ++ [.ref t]))) ∧ (upd (upd H2 t (.tup [.int (0 + (i : Int)), .int (0 + (i : Int)), .int ((sgs xs ys).getD i 0)])) p (.lst (us ++ [.ref t]))) p = some (.lst us') ∧ Tups K (upd (upd H2 t (.tup [.int (0 + (i : Int)), .int (0 + (i : Int)), .int ((sgs xs ys).getD i 0)])) p (.lst (us ++ [.ref t]))) us' ((runs (sgs xs ys) (i + 1)).map irow) := fun t nt e => by
          refine ⟨_, _, _, rfl, same_set (same_new s2 nt) np, upd_same, ?_⟩
          rw [e, List.map_append]
          have z : (0 + (i : Int)) = i := by omega
          rw [z]
          exact app_tups ep nt tu
        refine iteD (fun c => ?_) (fun c => ?_)
        · obtain ⟨j, rfl⟩ : ∃ j, i = j + 1 := ⟨i - 1, by
            have : us.length ≠ 0 := by omega
            rw [tu.len, List.length_map] at this
            cases i with
            | zero => exact absurd rfl this
            | succ j => rfl⟩
          have tu1 := tu
          rw [runs, List.map_append] at tu1
          obtain ⟨la, hla, tla⟩ := tu1.last
          have tla' : SqT K H2 la [.int (begun (sgs xs ys) j), .int j, .int ((sgs xs ys).getD (begun (sgs xs ys) j) 0)] := tla
          walk_at "rd"
          refine iteI (fun c2 => ?_) (fun c2 => ?_)
          · have c3 : (sgs xs ys).getD (j + 1) 0 = (sgs xs ys).getD (begun (sgs xs ys) j) 0 := c2.symm
            have hul : us.length = (done (sgs xs ys) j).length + 1 := by
              rw [tu1.len, List.length_append, List.length_map]
              rfl
            have hixn := ixN_neg1 hul
            walk_at "rd"
            rename_i t nt
            refine wall ⟨_, _, _, rfl, same_set (same_new s2 nt) np, upd_same, ?_⟩
            rw [runs_grow c3, List.map_append]
            have tset := ((tu1.upd (o := .tup [.int (begun (sgs xs ys) j), .int (0 + ((j + 1 : Nat) : Int)), .int ((sgs xs ys).getD (j + 1) 0)]) nt).set (t_of upd_same) (done (sgs xs ys) j).length).put (hp_upd nt ep) rfl (o' := .lst (us.set (done (sgs xs ys) j).length (.ref t)))
            have e : ((done (sgs xs ys) j).map irow ++ List.map irow [[(begun (sgs xs ys) j : Int), (j : Int), (sgs xs ys).getD (begun (sgs xs ys) j) 0]]).set (done (sgs xs ys) j).length [.int (begun (sgs xs ys) j), .int (0 + ((j + 1 : Nat) : Int)), .int ((sgs xs ys).getD (j + 1) 0)] = (done (sgs xs ys) j).map irow ++ List.map irow [[(begun (sgs xs ys) j : Int), ((j + 1 : Nat) : Int), (sgs xs ys).getD (begun (sgs xs ys) j) 0]] := by
              rw [List.set_append_right _ _ (by rw [List.length_map]; omega), List.length_map, Nat.sub_self, c3]
              have z : (0 + ((j + 1 : Nat) : Int)) = ((j + 1 : Nat) : Int) := by omega
              rw [z]
              rfl
            rw [e] at tset
            exact tset
          · walk_at "rd"
            refine wall (new _ (by assumption) (runs_new fun z => c2 z.symm))
        · have hi0 : i = 0 := by
            have : us.length = 0 := by omega
            rw [tu.len, List.length_map] at this
            cases i with
            | zero => rfl
            | succ j => 
              have := runs_pos (sgs xs ys) (j + 1) (by omega)
              omega
          subst hi0
          walk_at "rd"
          refine wall (new _ (by assumption) rfl)
      · rintro σ' H4 ⟨w⟩
        exact w trivial
    · rintro σ H2 ⟨us, m, s, rfl, s2, ep, tu⟩
      walk_at "rd"
      exact q p us H2 s2 np ep tu
theorem _law_runs_go {H : Hp} {Q : VK} {E : XK} {a b : Addr} {xs ys : List Int} (ha : SqL K H a (xs.map V.int)) (hb : SqL K H b (ys.map V.int)) (hx : xs.length ≤ 1000) (hy : ys.length ≤ 1000)
    (q : ∀ r us H', Same H H' → H r = none → H' r = some (.lst us) → Tups K H' us ((runsOf xs ys).map irow) → Q (.ref r) H') : sp__law_runs K [.ref a, .ref b] H Q E := by
  unfold sp__law_runs
  exact ⟨a, b, xs, ys, rfl, ha, hb, hx, hy, q⟩
local macro_rules | `(tactic| walk_at "call") => `(tactic| (apply _law_runs_go; (walk_at "sq"); (walk_at "sq"); (assumption); (assumption)))

/-! ### _law_cell -/
@[irreducible] def sp__law_cell (K : PySem.W.Frag) : Sp := fun vs H Q _ => ∃ (l : Addr) (ns : List Int) (j : Nat), vs = [.ref l, .int (j : Nat)] ∧ SqL K H l (ns.map V.int) ∧ ns.length ≤ 63 ∧ j < 64 ∧ Q (.int (cell ns j)) H
theorem ok__law_cell (T : Txt K mg) : FnOk P w K mg base (L2.CX P w) 1 T.a__law_cell T.fd__law_cell ["script", "k"] (sp__law_cell K) := by
  refine T.F__law_cell.ok sc__law_cell (fun vs H Q E h => ?_) (fun cdv A outer s H vs Q E hr h => ?_)
  · unfold sp__law_cell at h
    obtain ⟨l, ns, j, rfl, _⟩ := h
    rfl
  · unfold sp__law_cell at h
    obtain ⟨l, ns, j, rfl, hs, hn, hj, q⟩ := h
    refine ⟨_, (pss_cons (ps_if (pt_cmpR op_lt (pv 1) (pe_callB call_ln rfl T.z_len bt_len (pa_cons (pv 0) pa_nil)) (nomark _)) (pss_one (ps_ret (pe_ix ix_seq (pv 0) (pv 1) (fun _ _ => rfl)))) pss_nil)
    (pss_one (ps_ret pe_int))), ?_⟩
    refine ⟨_, rfl, _, rfl, ln_l hs ⟨_, _, rfl, rfl, _, rfl, ?_⟩⟩
    rw [List.length_map]
    refine ite2 (fun h => ?_) (fun h => ?_)
    · have h' : j < ns.length := by have := of_decide_eq_true h; omega
      refine ⟨_, rfl, _, rfl, .inl ⟨l, _, _, .int (cell ns j), rfl, rfl, hs, ?_, q⟩⟩
      exact atI_map_cell h'
    · have h' : ns.length ≤ j := by
        refine Nat.le_of_not_lt fun z => h (decide_eq_true ?_)
        omega
      have e : cell ns j = 0 := by unfold cell; rw [List.getD_eq_getElem?_getD, List.getElem?_eq_none h']; rfl
      rw [e] at q
      exact q
theorem cell_go {H : Hp} {Q : VK} {E : XK} {l : Addr} {ns : List Int} (j : Nat) (hs : SqL K H l (ns.map V.int)) (hn : ns.length ≤ 63) (hj : j < 64) (q : Q (.int (cell ns j)) H) : sp__law_cell K [.ref l, .int (j : Nat)] H Q E := by
  unfold sp__law_cell
  exact ⟨l, ns, j, rfl, hs, hn, hj, q⟩
theorem cell_at {H : Hp} {Q : VK} {E : XK} {l : Addr} {ns : List Int} {x : Int} (j : Nat) (hs : SqL K H l (ns.map V.int)) (hn : ns.length ≤ 63) (hj : j < 64) (ex : x = (j : Nat)) (q : Q (.int (cell ns j)) H) : sp__law_cell K [.ref l, .int x] H Q E := by
  subst ex
  exact cell_go j hs hn hj q
local macro_rules | `(tactic| walk_at "call") => `(tactic| first | (apply cell_go 0; (walk_at "sq"); assumption; decide) | (apply cell_go 1; (walk_at "sq"); assumption; decide) | (apply cell_go 2; (walk_at "sq"); assumption; decide) | (apply cell_go 3; (walk_at "sq"); assumption; decide) | (apply cell_go 4; (walk_at "sq"); assumption; decide) | (apply cell_go 5; (walk_at "sq"); assumption; decide) | (apply cell_go 6; (walk_at "sq"); assumption; decide) | (apply cell_go 7; (walk_at "sq"); assumption; decide) | (apply cell_go 8; (walk_at "sq"); assumption; decide) | (apply cell_go 9; (walk_at "sq"); assumption; decide) | (apply cell_go 10; (walk_at "sq"); assumption; decide) | (apply cell_go 11; (walk_at "sq"); assumption; decide) | (apply cell_go 12; (walk_at "sq"); assumption; decide) | (apply cell_go 13; (walk_at "sq"); assumption; decide))

/-! ### sign_of -/
@[irreducible] def sp_sign_of : Sp := fun vs H Q E => ∃ (a : Int) (b : Int), vs = [.int a, .int b] ∧ Q (.int (sg2 a b)) H
theorem ok_sign_of (T : Txt K mg) : FnOk P w K mg base (L2.CX P w) 1 T.a_sign_of T.fd_sign_of ["first", "second"] sp_sign_of := by
  refine T.F_sign_of.ok sc_sign_of (fun vs H Q E h => ?_) (fun cdv A outer s H vs Q E hr h => ?_)
  · unfold sp_sign_of at h
    obtain ⟨a, b, rfl, _⟩ := h
    rfl
  · unfold sp_sign_of at h
    obtain ⟨a, b, rfl, q⟩ := h
    refine ⟨_, (pss_cons (ps_if (pt_cmpR op_lt (pv 0) (pv 1) (nomark _)) (pss_one (ps_ret (pe_un un_neg pe_int))) pss_nil)
    (pss_cons (ps_if (pt_cmpR op_gt (pv 0) (pv 1) (nomark _)) (pss_one (ps_ret pe_int)) pss_nil)
    (pss_one (ps_ret pe_int)))), ?_⟩
    unfold sg2 at q
    walk_at "rd"
    refine iteD (fun c => ?_) (fun c => ?_)
    · rw [if_pos c] at q
      walk_at "rd"
      exact q
    rw [if_neg c] at q
    walk_at "rd"
    refine iteD (fun c => ?_) (fun c => ?_)
    · rw [if_pos c] at q
      walk_at "rd"
      exact q
    · rw [if_neg c] at q
      walk_at "rd"
      exact q
theorem sign_of_go {H : Hp} {Q : VK} {E : XK} {a : Int} {b : Int} (q : Q (.int (sg2 a b)) H) : sp_sign_of [.int a, .int b] H Q E := by
  unfold sp_sign_of
  exact ⟨a, b, rfl, q⟩
local macro_rules | `(tactic| walk_at "call") => `(tactic| (apply sign_of_go))

/-! ### stretches_of -/
@[irreducible] def sp_stretches_of (K : PySem.W.Frag) : Sp := fun vs H Q E => ∃ (a : Addr) (b : Addr) (xs : List Int) (ys : List Int), vs = [.ref a, .ref b] ∧ SqL K H a (xs.map V.int) ∧ SqL K H b (ys.map V.int) ∧ xs.length ≤ 1000 ∧ ys.length ≤ 1000 ∧
  (∀ r us H', Same H H' → H r = none → H' r = some (.lst us) → Tups K H' us ((runsOf xs ys).map irow) → Q (.ref r) H')
theorem ok_stretches_of (T : Txt K mg) : FnOk P w K mg base (L2.CX P w) 2 T.a_stretches_of T.fd_stretches_of ["first", "second"] (sp_stretches_of K) := by
  refine T.F_stretches_of.ok sc_stretches_of (fun vs H Q E h => ?_) (fun cdv A outer s H vs Q E hr h => ?_)
  · unfold sp_stretches_of at h
    obtain ⟨a, b, xs, ys, rfl, _⟩ := h
    rfl
  · unfold sp_stretches_of at h
    obtain ⟨a, b, xs, ys, rfl, ha, hb, hx, hy, q⟩ := h
    refine ⟨_, (pss_cons (ps_set (i := 2) sc_stretches_of.nd rfl (Or.inl rfl) (pe_lst pa_nil))
    (pss_cons (ps_set (i := 3) sc_stretches_of.nd rfl (Or.inl rfl) pe_int)
    (pss_cons (ps_setLc (i := 4) (own := [("cost", 5), ("other", 6)]) (tt := tYes) rfl sc_stretches_of.nd rfl rfl (sw_true rfl rfl rfl (by decide +kernel)) (pi_zip rfl T.z_zip (pa_cons (pv 0) (pa_cons (pv 1) pa_nil))) (blkOk_by (own := [("cost", 5), ("other", 6)]) (N := ["first", "second", "stretches", "begun", "signs", "cost", "other", "number"]) (sc := defScope s_stretches_of) (by decide +kernel)) (fun _ _ _ _ _ => ((pg_tup rfl (pgs_cons (pg_name (i := 5) sc_stretches_of.nd rfl (Or.inl rfl)) (pgs_cons (pg_name (i := 6) sc_stretches_of.nd rfl (Or.inl rfl)) pgs_nil))) : PG _ _ (gTup K 2 _))) (fun _ _ _ _ _ => pts_nil) (fun _ _ _ _ _ => (pe_callS (ok_sign_of T) (hr.mono (by decide)) rfl T.m_sign_of T.F_sign_of.kp T.b_sign_of (fun σ => passXS σ) (pa_cons (pv 5) (pa_cons (pv 6) pa_nil)))))
    (pss_cons (ps_for (passes_of rfl) rfl (pi_range2 rfl T.z_range (pa_cons pe_int (pa_cons (pe_op op_add (pe_callB call_ln rfl T.z_len bt_len (pa_cons (pv 4) pa_nil)) pe_int) pa_nil))) (pg_name (i := 7) sc_stretches_of.nd rfl (Or.inl rfl))
      (pss_one (ps_cut (ps_if (PW.pt (pw_or (pt_cmpR op_eq (pv 7) (pe_callB call_ln rfl T.z_len bt_len (pa_cons (pv 4) pa_nil)) (nomark _)) (pw_or1 (pt_cmpR op_ne (pe_ix ix_list (pv 4) (pv 7) (fun _ _ => rfl)) (pe_ix ix_list (pv 4) (pv 3) (fun _ _ => rfl)) (nomark _))))) (pss_cons (ps_expr (pe_bm PySem.F.plainAttrs_list PySem.F.slot_list_append PySem.F.type_list_append mt_app (pv 2) (pa_cons (pe_tup (pa_cons (pv 3) (pa_cons (pe_op op_sub (pv 7) pe_int) (pa_cons (pe_ix ix_list (pv 4) (pv 3) (fun _ _ => rfl)) pa_nil)))) pa_nil)))
        (pss_one (ps_set (i := 3) sc_stretches_of.nd rfl (Or.inl rfl) (pv 7)))) pss_nil))))
    (pss_one (ps_ret (pv 2))))))), ?_⟩
    walk_at "rd"
    rename_i p np
    have ha1 := lst_upd (o := .lst []) np ha
    have hb1 := lst_upd (o := .lst []) np hb
    refine ⟨a, b, _, _, rfl, ha1, hb1, fun D hD => ?_⟩
    have hn : (sgs xs ys).length = min (xs.map V.int).length (ys.map V.int).length := by rw [sgs_len, List.length_map, List.length_map]
    refine lc_it (walk_zip hn) (fun i H' => Same (upd H p (.lst [])) H' ∧ H' D = some (.lst (((sgs xs ys).take i).map V.int))) ⟨same_new (Same.refl _) hD, upd_same⟩ (fun i H' _ e => ⟨same_lst e.1 ha1, same_lst e.1 hb1⟩) ?_ ?_
    · rintro i x H2 H3 hi ⟨s2, e2⟩ ⟨T0, x0, y0, rfl, hT, rfl, ex, ey⟩
      have hi2 := hi
      rw [sgs_len] at hi2
      replace ex : (xs.map V.int)[i]? = some x0 := ex
      replace ey : (ys.map V.int)[i]? = some y0 := ey
      rw [List.getElem?_map, List.getElem?_eq_getElem (by omega : i < xs.length)] at ex
      rw [List.getElem?_map, List.getElem?_eq_getElem (by omega : i < ys.length)] at ey
      cases ex
      cases ey
      walk_at "rd"
      refine ⟨_, hp_upd hT e2, ?_, same_set (same_new s2 hT) hD, ?_⟩
      · rw [List.length_map, List.length_take, sizeLine_eq, sgs_len]
        omega
      · rw [upd_same, List.take_add_one, List.getElem?_eq_getElem hi, show (sgs xs ys)[i] = sg2 xs[i] ys[i] by simp only [sgs, List.getElem_map, List.getElem_zip], List.map_append]
        rfl
    rintro H2 ⟨s2, e2⟩
    rw [List.take_length] at e2
    generalize hss : sgs xs ys = ss at *
    walk_at "rd"
    have hl : ss.length ≤ 1000 := by rw [← hss, sgs_len]; omega
    have q' : ∀ H' us, Same (upd H p (.lst [])) H' ∨ True → Same H H' → H' p = some (.lst us) → Tups K H' us ((runs ss ss.length).map irow) → Q (.ref p) H' := fun H' us _ s e t => q p us H' s np e (by unfold runsOf; rw [hss]; exact t)
    have hp2 : H2 p = some (.lst []) := s2 _ _ upd_same
    have s02 : Same H H2 := (same_new (Same.refl H) np).trans s2
    have hpD : p ≠ D := fun z => by
      rw [z] at hD
      rw [upd_same] at hD
      cases hD
    refine ⟨_, _, rfl, ⟨by omega, by omega, ?_, ?_⟩, ?_⟩
    · rw [map_len]; omega
    · rw [map_len]; omega
    rw [map_len]
    have hHD : H D = none := by
      cases e : H D with
      | none => rfl
      | some o =>
        have := same_new (o := .lst []) (Same.refl H) np D o e
        rw [hD] at this
        cases this
    refine for_range (lo := 1) (n := ((ss.length : Int) + 1 - 1).toNat) (fun i σ H' => ∃ (us : List V) (m : Option V) (b0 : Int), σ = [some (.ref a), some (.ref b), some (.ref p), some (.int b0), some (.ref D), none, none, m] ∧ Same H H' ∧ H' D = some (.lst (ss.map V.int)) ∧ H' p = some (.lst us) ∧ (i < ss.length → b0 = begun ss i) ∧ Tups K H' us ((if i < ss.length then done ss i else runs ss ss.length).map irow)) ?_ ?_ ?_
    · refine ⟨[], none, 0, rfl, s02, e2, hp2, fun _ => rfl, ?_⟩
      split
      · exact Tups.nil
      · have : ss.length = 0 := by omega
        rw [this]
        exact Tups.nil
    · rintro i σ H3 hi ⟨us, m, b0, rfl, s3, eD, ep, hb0, tu⟩
      have hil : i < ss.length := by omega
      rw [if_pos hil] at tu
      have hb1 := hb0 hil
      subst hb1
      have hbl := begun_le ss i
      have fin : ∀ (t : Addr), H3 t = none → (ss.length = i + 1 ∨ ss.getD (i + 1) 0 ≠ ss.getD (begun ss i) 0) → ∃ (us' : List V) (m : Option V) (b0 : Int), [some (V.ref a), some (.ref b), some (.ref p), some (.int (1 + (i : Int))), some (.ref D), none, none, some (.int (1 + (i : Int)))] = [some (.ref a), some (.ref b), some (.ref p), some (.int b0), some (.ref D), none, none, m] ∧ Same H (upd (upd H3 t (.tup [.int (begun ss i), .int (1 + (i : Int) - 1), .int (ss.getD (begun ss i) 0)])) p (.lst (us ++ [.ref t]))) ∧ (upd (upd H3 t (.tup [.int (begun ss i), .int (1 + (i : Int) - 1), .int (ss.getD (begun ss i) 0)])) p (.lst (us ++ [.ref t]))) D = some (.lst (ss.map V.int)) ∧ (upd (upd H3 t (.tup [.int (begun ss i), .int (1 + (i : Int) - 1), .int (ss.getD (begun ss i) 0)])) p (.lst (us ++ [.ref t]))) p = some (.lst us') ∧ (i + 1 < ss.length → b0 = begun ss (i + 1)) ∧ Tups K (upd (upd H3 t (.tup [.int (begun ss i), .int (1 + (i : Int) - 1), .int (ss.getD (begun ss i) 0)])) p (.lst (us ++ [.ref t]))) us' ((if i + 1 < ss.length then done ss (i + 1) else runs ss ss.length).map irow) := fun t nt c => by
        refine ⟨_, _, _, rfl, same_set (same_new s3 nt) np, ?_, upd_same, fun h => ?_, ?_⟩
        · rw [upd_ne hpD.symm, hp_upd nt eD]
        · rcases c with c | c
          · omega
          · rw [begun, if_neg c]
            omega
        · have e1 : ((if i + 1 < ss.length then done ss (i + 1) else runs ss ss.length).map irow) = (done ss i).map irow ++ [[.int (begun ss i), .int (1 + (i : Int) - 1), .int (ss.getD (begun ss i) 0)]] := by
            have e0 : (1 + (i : Int) - 1) = i := by omega
            rw [e0]
            by_cases h : i + 1 < ss.length
            · rw [if_pos h]
              rcases c with c | c
              · omega
              · rw [done, if_neg c, List.map_append]
                rfl
            · rw [if_neg h]
              have : ss.length = i + 1 := by omega
              rw [this, runs, List.map_append]
              rfl
          rw [e1]
          exact app_tups ep nt tu
      walk_at "rd"
      refine ⟨fun σ' H' => Wall (∃ (us : List V) (m : Option V) (b0 : Int), σ' = [some (.ref a), some (.ref b), some (.ref p), some (.int b0), some (.ref D), none, none, m] ∧ Same H H' ∧ H' D = some (.lst (ss.map V.int)) ∧ H' p = some (.lst us) ∧ (i + 1 < ss.length → b0 = begun ss (i + 1)) ∧ Tups K H' us ((if i + 1 < ss.length then done ss (i + 1) else runs ss ss.length).map irow)), ?_, ?_⟩
      · have LD := l_of (K := K) eD
        have hix : atI (ss.map V.int) ((begun ss i : Nat) : Int) = some (V.int (ss.getD (begun ss i) 0)) := atI_map_cell (by omega)
        have hln : us.length < sizeLine := by
          rw [tu.len, List.length_map, sizeLine_eq]
          have := done_len ss i
          omega
        walk_at "rd"
        rw [map_len]
        refine iteI (fun c => ?_) (fun c => ?_)
        · walk_at "rd"
          refine wall (fin _ (by assumption) (.inl (by omega)))
        · have hix2 : atI (ss.map V.int) (1 + (i : Int)) = some (V.int (ss.getD (i + 1) 0)) := by
            have := atI_map_cell (ns := ss) (j := i + 1) (by omega)
            rw [← show ((i + 1 : Nat) : Int) = 1 + (i : Int) by omega]
            exact this
          walk_at "rd"
          refine iteIN (fun c2 => ?_) (fun c2 => ?_)
          · walk_at "rd"
            refine wall (fin _ (by assumption) (.inr c2))
          · walk_at "rd"
            refine wall ⟨us, _, _, rfl, s3, eD, ep, fun _ => ?_, ?_⟩
            · rw [begun, if_pos c2]
            · rw [if_pos (by omega), done, if_pos c2]
              exact tu
      · rintro σ' H4 ⟨w⟩
        exact w trivial
    · rintro σ H3 ⟨us, m, b0, rfl, s3, eD, ep, hb0, tu⟩
      rw [if_neg (by omega)] at tu
      walk_at "rd"
      exact q' H3 us (.inr trivial) s3 ep tu
theorem stretches_of_go {H : Hp} {Q : VK} {E : XK} {a b : Addr} {xs ys : List Int} (ha : SqL K H a (xs.map V.int)) (hb : SqL K H b (ys.map V.int)) (hx : xs.length ≤ 1000) (hy : ys.length ≤ 1000)
    (q : ∀ r us H', Same H H' → H r = none → H' r = some (.lst us) → Tups K H' us ((runsOf xs ys).map irow) → Q (.ref r) H') : sp_stretches_of K [.ref a, .ref b] H Q E := by
  unfold sp_stretches_of
  exact ⟨a, b, xs, ys, rfl, ha, hb, hx, hy, q⟩
local macro_rules | `(tactic| walk_at "call") => `(tactic| (apply stretches_of_go; (walk_at "sq"); (walk_at "sq"); (assumption); (assumption)))

/-! ### check_offers -/
@[irreducible] def sp_check_offers (K : PySem.W.Frag) : Sp := fun vs H Q E => ∃ (c : Addr) (us : List V) (rs : List (List Int)) (a : Addr) (b : Addr) (xs : List Int) (ys : List Int), vs = [.ref c, .ref a, .ref b] ∧ SqL K H c us ∧ Tups K H us (rs.map irow) ∧ SqL K H a (xs.map V.int) ∧ SqL K H b (ys.map V.int) ∧ xs.length ≤ 1000 ∧ ys.length ≤ 1000 ∧
  (∀ H', Same H H' → Q (.bl (decide (rs = runsOf xs ys))) H')
theorem ok_check_offers (T : Txt K mg) : FnOk P w K mg base (L2.CX P w) 3 T.a_check_offers T.fd_check_offers ["parts", "first", "second"] (sp_check_offers K) := by
  refine T.F_check_offers.ok sc_check_offers (fun vs H Q E h => ?_) (fun cdv A outer s H vs Q E hr h => ?_)
  · unfold sp_check_offers at h
    obtain ⟨c, us, rs, a, b, xs, ys, rfl, _⟩ := h
    rfl
  · unfold sp_check_offers at h
    obtain ⟨c, us, rs, a, b, xs, ys, rfl, hc, tu, ha, hb, hx, hy, q⟩ := h
    refine ⟨_, (pss_one (ps_ret (pe_cmpR (op_eqD hr.units) (pe_callTy call_lo rfl T.z_list bt_list (pa_cons (pv 0) pa_nil)) (pe_callS (ok_stretches_of T) (hr.mono (by decide)) rfl T.m_stretches_of T.F_stretches_of.kp T.b_stretches_of (fun σ => passAt (takes_of rfl rfl rfl rfl) σ) (pa_cons (pv 1) (pa_cons (pv 2) pa_nil))) (nomark _)))), ?_⟩
    walk_at "rd"
    intro r vs H2 s2 nr er tr
    rename_i l nl
    refine eqD_R (l_of (s2 _ _ upd_same)) ((tu.upd nl).same s2) (l_of er) tr irows_flat irows_flat ?_
    rw [eqLL_i]
    exact q H2 ((same_new (Same.refl H) nl).trans s2)
theorem check_offers_go {H : Hp} {Q : VK} {E : XK} {c : Addr} {us : List V} {rs : List (List Int)} {a b : Addr} {xs ys : List Int} (hc : SqL K H c us) (tu : Tups K H us (rs.map irow)) (ha : SqL K H a (xs.map V.int)) (hb : SqL K H b (ys.map V.int)) (hx : xs.length ≤ 1000) (hy : ys.length ≤ 1000)
    (q : ∀ H', Same H H' → Q (.bl (decide (rs = runsOf xs ys))) H') : sp_check_offers K [.ref c, .ref a, .ref b] H Q E := by
  unfold sp_check_offers
  exact ⟨c, us, rs, a, b, xs, ys, rfl, hc, tu, ha, hb, hx, hy, q⟩

/-! ### _law_spoilt -/
/-- lists of rows, each another one than R -/
def Wrongs (K : PySem.W.Frag) (r : Addr) (H : Hp) (xs : List V) (R : List (List Int)) : Prop := ∀ v ∈ xs, ∃ (p : Addr) (vs : List V) (rows : List (List Int)), v = .ref p ∧ p ≠ r ∧ H p = some (.lst vs) ∧ Tups K H vs (rows.map irow) ∧ rows ≠ R
theorem Wrongs.same {r : Addr} {H H' : Hp} {xs : List V} {R : List (List Int)} (s : Same H H') (h : Wrongs K r H xs R) : Wrongs K r H' xs R := fun v hv => by
  obtain ⟨p, vs, rows, h1, h2, h3, h4, h5⟩ := h v hv
  exact ⟨p, vs, rows, h1, h2, s _ _ h3, h4.same s, h5⟩
theorem spoil_end {H0 H2 H4 H5 : Hp} {r w : Addr} {xs vs : List V} {R rows : List (List Int)} (nw : H4 w = none) (s4 : Same H2 H4) (s : Same H2 H5) (hw : H5 w = some (.lst vs)) (tv : Tups K H5 vs (rows.map irow)) (ne : rows ≠ R) (hr : H2 r = some (.lst xs)) (wr : Wrongs K r H2 xs R) (s0 : Same H0 H2) (n0 : H0 r = none) :
    Same H0 (upd H5 r (.lst (xs ++ [.ref w]))) ∧ (upd H5 r (.lst (xs ++ [.ref w]))) r = some (.lst (xs ++ [.ref w])) ∧ Wrongs K r (upd H5 r (.lst (xs ++ [.ref w]))) (xs ++ [.ref w]) R := by
  have hne : w ≠ r := fun z => by
    have := s4.free nw
    rw [z, hr] at this
    cases this
  refine ⟨same_set (s0.trans s) n0, upd_same, fun v hv => ?_⟩
  rcases List.mem_append.mp hv with hv | hv
  · obtain ⟨p, us, rs, h1, h2, h3, h4, h5⟩ := wr.same s v hv
    exact ⟨p, us, rs, h1, h2, (upd_ne h2).trans h3, h4.put (s _ _ hr) rfl, h5⟩
  · rw [List.mem_singleton] at hv
    exact ⟨w, vs, rows, hv, hne, (upd_ne hne).trans hw, tv.put (s _ _ hr) rfl, ne⟩
theorem cut_lo {H : Hp} {us : List V} {A C : List (List Int)} (tu : Tups K H us ((A ++ C).map irow)) {H' : Hp} (s : Same H H') : Tups K H' (cutV us none (some ((A.length : Nat) : Int))) (A.map irow) := by
  have h := (tu.same s).take A.length
  rw [cutV_lo (by rw [tu.len, List.length_map, List.length_append]; omega)]
  rw [List.map_append, List.take_left' (by rw [List.length_map])] at h
  exact h
theorem cut_hi {H : Hp} {us : List V} {A C : List (List Int)} (tu : Tups K H us ((A ++ C).map irow)) {H' : Hp} (s : Same H H') (k : Int) (hk : k = ((A.length : Nat) : Int)) : Tups K H' (cutV us (some k) none) (C.map irow) := by
  subst hk
  have h := (tu.same s).drop A.length
  rw [cutV_hi (by rw [tu.len, List.length_map, List.length_append]; omega)]
  rw [List.map_append, List.drop_left' (by rw [List.length_map])] at h
  exact h
theorem cut_two {H : Hp} {us : List V} {A C : List (List Int)} {r : List Int} (tu : Tups K H us ((A ++ r :: C).map irow)) {H' : Hp} (s : Same H H') : Tups K H' (cutV us none (some ((A.length : Nat) : Int))) (A.map irow) ∧ Tups K H' (cutV us (some (((A.length : Nat) : Int) + 1)) none) (C.map irow) := by
  refine ⟨cut_lo tu s, ?_⟩
  have e : A ++ r :: C = (A ++ [r]) ++ C := by simp
  rw [e] at tu
  exact cut_hi tu s _ (by simp)
theorem cut_three {H : Hp} {us : List V} {A C : List (List Int)} {r q : List Int} (tu : Tups K H us ((A ++ r :: q :: C).map irow)) {H' : Hp} (s : Same H H') : Tups K H' (cutV us (some (((A.length : Nat) : Int) + 2)) none) (C.map irow) := by
  have e : A ++ r :: q :: C = (A ++ [r, q]) ++ C := by simp
  rw [e] at tu
  exact cut_hi tu s _ (by simp)
/-- one row in the middle -/
theorem mid_one {H' : Hp} {va vb : List V} {A B : List (List Int)} {t : Addr} {r : List Int} (h : Tups K H' va (A.map irow) ∧ Tups K H' vb (B.map irow)) (ht : SqT K H' t (irow r)) : Tups K H' (va ++ [.ref t] ++ vb) ((A ++ r :: B).map irow) := by
  have := (h.1.snoc ht).append h.2
  simpa only [List.map_append, List.map_cons, List.append_assoc, List.cons_append, List.nil_append] using this
theorem mid_zero {H' : Hp} {va vb : List V} {A B : List (List Int)} (h : Tups K H' va (A.map irow) ∧ Tups K H' vb (B.map irow)) : Tups K H' (va ++ vb) ((A ++ B).map irow) := by
  rw [List.map_append]
  exact h.1.append h.2
theorem mid_two {H' : Hp} {va vb : List V} {A B : List (List Int)} {t t2 : Addr} {r r2 : List Int} (h : Tups K H' va (A.map irow)) (h2 : Tups K H' vb (B.map irow)) (ht : SqT K H' t (irow r)) (ht2 : SqT K H' t2 (irow r2)) : Tups K H' (va ++ [.ref t, .ref t2] ++ vb) ((A ++ r :: r2 :: B).map irow) := by
  have := (h.append (Tups.cons ht (Tups.cons ht2 Tups.nil))).append h2
  simpa only [List.map_append, List.map_cons, List.append_assoc, List.cons_append, List.nil_append] using this
theorem mid_ne {A B C : List (List Int)} {r q : List Int} (h : r ≠ q) : A ++ r :: B ≠ A ++ q :: C := fun z => h (List.cons.inj (List.append_cancel_left z)).1
theorem len_ne {α : Type} {A B : List α} (h : A.length ≠ B.length) : A ≠ B := fun z => h (by rw [z])
@[irreducible] def sp__law_spoilt (K : PySem.W.Frag) : Sp := fun vs H Q E => ∃ (p : Addr) (us : List V) (g : Int) (A : List (List Int)) (x : Int) (y : Int) (z : Int) (B : List (List Int)) (L : List (List Int)) (b : Int) (e : Int) (s : Int), vs = [.ref p, .int ((A.length : Nat) : Int), .int g] ∧ H p = some (.lst us) ∧ Tups K H us ((A ++ [x, y, z] :: B).map irow) ∧ A.length + B.length ≤ 1000 ∧ g ≠ z ∧ (∀ r ∈ B, ∃ x' y' z' : Int, r = [x', y', z'] ∧ x ≠ x') ∧ A ++ [x, y, z] :: B = L ++ [[b, e, s]] ∧
  (∀ r xs H', Same H H' → H r = none → H' r = some (.lst xs) → Wrongs K r H' xs (A ++ [x, y, z] :: B) → xs.length ≤ 9 → Q (.ref r) H')
local macro_rules | `(tactic| walk_at "call") => `(tactic| first
  | (apply ct_go; (walk_at "hp"); (walk_at "hp"); (rw [sizeLine_eq]; (try simp only [List.length_append, List.length_cons, List.length_nil]); omega); (intro p hp))
  | (apply app_go; (walk_at "hp"); (rw [sizeLine_eq]; omega)))
theorem ok__law_spoilt (T : Txt K mg) : FnOk P w K mg base (L2.CX P w) 1 T.a__law_spoilt T.fd__law_spoilt ["parts", "k", "sign"] (sp__law_spoilt K) := by
  refine T.F__law_spoilt.ok sc__law_spoilt (fun vs H Q E h => ?_) (fun cdv A outer s H vs Q E hr h => ?_)
  · unfold sp__law_spoilt at h
    obtain ⟨p, us, g, A, x, y, z, B, L, b, e, s, rfl, _⟩ := h
    rfl
  · unfold sp__law_spoilt at h
    obtain ⟨p, us, g, A, x, y, z, B, L, b, e, s, rfl, hp, tu, hl, hg, hB, hL, q⟩ := h
    refine ⟨_, (pss_cons (ps_set (i := 3) sc__law_spoilt.nd rfl (Or.inl rfl) (pe_lst pa_nil))
    (pss_cons (ps_set (i := 4) sc__law_spoilt.nd rfl (Or.inl rfl) (pe_ix ix_list (pv 0) (pv 1) (fun _ _ => rfl)))
    (pss_cons (ps_cut (ps_expr (pe_bm PySem.F.plainAttrs_list PySem.F.slot_list_append PySem.F.type_list_append mt_app (pv 3) (pa_cons (pe_op op_ct (pe_op op_ct (pe_slice sl_list (pv 0) po_none (po_some (pv 1))) (pe_lst (pa_cons (pe_tup (pa_cons (pe_ix ix_tup (pv 4) pe_int (fun _ _ => rfl)) (pa_cons (pe_ix ix_tup (pv 4) pe_int (fun _ _ => rfl)) (pa_cons (pv 2) pa_nil)))) pa_nil))) (pe_slice sl_list (pv 0) (po_some (pe_op op_add (pv 1) pe_int)) po_none)) pa_nil))))
    (pss_cons (ps_cut (ps_expr (pe_bm PySem.F.plainAttrs_list PySem.F.slot_list_append PySem.F.type_list_append mt_app (pv 3) (pa_cons (pe_op op_ct (pe_op op_ct (pe_slice sl_list (pv 0) po_none (po_some (pv 1))) (pe_lst (pa_cons (pe_tup (pa_cons (pe_ix ix_tup (pv 4) pe_int (fun _ _ => rfl)) (pa_cons (pe_op op_add (pe_ix ix_tup (pv 4) pe_int (fun _ _ => rfl)) pe_int) (pa_cons (pe_ix ix_tup (pv 4) pe_int (fun _ _ => rfl)) pa_nil)))) pa_nil))) (pe_slice sl_list (pv 0) (po_some (pe_op op_add (pv 1) pe_int)) po_none)) pa_nil))))
    (pss_cons (ps_cut (ps_expr (pe_bm PySem.F.plainAttrs_list PySem.F.slot_list_append PySem.F.type_list_append mt_app (pv 3) (pa_cons (pe_op op_ct (pe_op op_ct (pe_slice sl_list (pv 0) po_none (po_some (pv 1))) (pe_lst (pa_cons (pe_tup (pa_cons (pe_op op_add (pe_ix ix_tup (pv 4) pe_int (fun _ _ => rfl)) pe_int) (pa_cons (pe_ix ix_tup (pv 4) pe_int (fun _ _ => rfl)) (pa_cons (pe_ix ix_tup (pv 4) pe_int (fun _ _ => rfl)) pa_nil)))) pa_nil))) (pe_slice sl_list (pv 0) (po_some (pe_op op_add (pv 1) pe_int)) po_none)) pa_nil))))
    (pss_cons (ps_cut (ps_expr (pe_bm PySem.F.plainAttrs_list PySem.F.slot_list_append PySem.F.type_list_append mt_app (pv 3) (pa_cons (pe_op op_ct (pe_slice sl_list (pv 0) po_none (po_some (pv 1))) (pe_slice sl_list (pv 0) (po_some (pe_op op_add (pv 1) pe_int)) po_none)) pa_nil))))
    (pss_cons (ps_cut (ps_expr (pe_bm PySem.F.plainAttrs_list PySem.F.slot_list_append PySem.F.type_list_append mt_app (pv 3) (pa_cons (pe_op op_ct (pv 0) (pe_lst (pa_cons (pe_tup (pa_cons (pe_op op_add (pe_ix ix_tup (pe_ix ix_list (pv 0) (pe_un un_neg pe_int) (fun _ _ => rfl)) pe_int (fun _ _ => rfl)) pe_int) (pa_cons (pe_op op_add (pe_ix ix_tup (pe_ix ix_list (pv 0) (pe_un un_neg pe_int) (fun _ _ => rfl)) pe_int (fun _ _ => rfl)) pe_int) (pa_cons (pv 2) pa_nil)))) pa_nil))) pa_nil))))
    (pss_cons (ps_cut (ps_if (pt_cmpR op_gt (pe_ix ix_tup (pv 4) pe_int (fun _ _ => rfl)) (pe_ix ix_tup (pv 4) pe_int (fun _ _ => rfl)) (nomark _)) (pss_cons (ps_set (i := 5) sc__law_spoilt.nd rfl (Or.inl rfl) (pe_op op_fdivB (pe_op op_add (pe_ix ix_tup (pv 4) pe_int (fun _ _ => rfl)) (pe_ix ix_tup (pv 4) pe_int (fun _ _ => rfl))) pe_int))
      (pss_one (ps_cut (ps_expr (pe_bm PySem.F.plainAttrs_list PySem.F.slot_list_append PySem.F.type_list_append mt_app (pv 3) (pa_cons (pe_op op_ct (pe_op op_ct (pe_slice sl_list (pv 0) po_none (po_some (pv 1))) (pe_lst (pa_cons (pe_tup (pa_cons (pe_ix ix_tup (pv 4) pe_int (fun _ _ => rfl)) (pa_cons (pv 5) (pa_cons (pe_ix ix_tup (pv 4) pe_int (fun _ _ => rfl)) pa_nil)))) (pa_cons (pe_tup (pa_cons (pe_op op_add (pv 5) pe_int) (pa_cons (pe_ix ix_tup (pv 4) pe_int (fun _ _ => rfl)) (pa_cons (pe_ix ix_tup (pv 4) pe_int (fun _ _ => rfl)) pa_nil)))) pa_nil)))) (pe_slice sl_list (pv 0) (po_some (pe_op op_add (pv 1) pe_int)) po_none)) pa_nil)))))) pss_nil))
    (pss_cons (ps_cut (ps_if (pt_cmpR op_lt (pe_op op_add (pv 1) pe_int) (pe_callB call_ln rfl T.z_len bt_len (pa_cons (pv 0) pa_nil)) (nomark _)) (pss_cons (ps_cut (ps_expr (pe_bm PySem.F.plainAttrs_list PySem.F.slot_list_append PySem.F.type_list_append mt_app (pv 3) (pa_cons (pe_op op_ct (pe_op op_ct (pe_slice sl_list (pv 0) po_none (po_some (pv 1))) (pe_lst (pa_cons (pe_tup (pa_cons (pe_ix ix_tup (pv 4) pe_int (fun _ _ => rfl)) (pa_cons (pe_ix ix_tup (pe_ix ix_list (pv 0) (pe_op op_add (pv 1) pe_int) (fun _ _ => rfl)) pe_int (fun _ _ => rfl)) (pa_cons (pe_ix ix_tup (pv 4) pe_int (fun _ _ => rfl)) pa_nil)))) pa_nil))) (pe_slice sl_list (pv 0) (po_some (pe_op op_add (pv 1) pe_int)) po_none)) pa_nil))))
      (pss_one (ps_cut (ps_expr (pe_bm PySem.F.plainAttrs_list PySem.F.slot_list_append PySem.F.type_list_append mt_app (pv 3) (pa_cons (pe_op op_ct (pe_op op_ct (pe_slice sl_list (pv 0) po_none (po_some (pv 1))) (pe_lst (pa_cons (pe_ix ix_list (pv 0) (pe_op op_add (pv 1) pe_int) (fun _ _ => rfl)) (pa_cons (pv 4) pa_nil)))) (pe_slice sl_list (pv 0) (po_some (pe_op op_add (pv 1) pe_int)) po_none)) pa_nil)))))) pss_nil))
    (pss_cons (ps_cut (ps_expr (pe_bm PySem.F.plainAttrs_list PySem.F.slot_list_append PySem.F.type_list_append mt_app (pv 3) (pa_cons (pe_lst pa_nil) pa_nil))))
    (pss_one (ps_ret (pv 3))))))))))))), ?_⟩
    have hul : us.length ≤ 1002 := by
      rw [tu.len, List.length_map, List.length_append, List.length_cons]
      omega
    have hc1 := cutV_length us none (some ((A.length : Nat) : Int))
    have hc2 := cutV_length us (some (((A.length : Nat) : Int) + 1)) none
    have hc3 := cutV_length us (some (((A.length : Nat) : Int) + 2)) none
    obtain ⟨pt, hpt, tpt⟩ := tu.get (i := A.length) (r := irow [x, y, z]) (by rw [List.map_append, List.getElem?_append_right (by rw [List.length_map]; exact Nat.le_refl _), List.length_map, Nat.sub_self]; rfl)
    have tpt0 : SqT K H pt [.int x, .int y, .int z] := tpt
    have tuL := tu
    rw [hL, List.map_append] at tuL
    obtain ⟨la, hla, tla⟩ := tuL.last
    have tla0 : SqT K H la [.int b, .int e, .int s] := tla
    have LP := l_of (K := K) hp
    walk_at "rd"
    rename_i r nr
    have start : ∃ (xs : List V) (m : Option V), [some (V.ref p), some (.int ((A.length : Nat) : Int)), some (.int g), some (.ref r), some (.ref pt), none] = [some (V.ref p), some (.int ((A.length : Nat) : Int)), some (.int g), some (.ref r), some (.ref pt), m] ∧ Same H (upd H r (.lst [])) ∧ (upd H r (.lst [])) r = some (.lst xs) ∧ Wrongs K r (upd H r (.lst [])) xs (A ++ [x, y, z] :: B) ∧ xs.length ≤ 0 := ⟨[], _, rfl, same_new (Same.refl H) nr, upd_same, fun v hv => by (cases hv), Nat.le_refl _⟩
    generalize upd H r (.lst []) = H1 at start
    obtain ⟨xs1, m1, e1, s1, er1, wr1, hx1⟩ := start
    -- 1
    refine ⟨fun σ' H' => Wall (∃ (xs : List V) (m : Option V), σ' = [some (V.ref p), some (.int ((A.length : Nat) : Int)), some (.int g), some (.ref r), some (.ref pt), m] ∧ (Same H H' ∧ H' r = some (.lst xs) ∧ Wrongs K r H' xs (A ++ [x, y, z] :: B)) ∧ xs.length ≤ 1), ?_, ?_⟩
    · have hp1 := s1 _ _ hp
      have LP1 := l_of (K := K) hp1
      have tpt1 := same_tup s1 tpt0
      have tla1 := same_tup s1 tla0
      have tu1 := tu.same s1
      walk_at "rd"
      refine wall ⟨_, _, rfl, spoil_end (by assumption) (by walk_at "sm") (by walk_at "sm") (by walk_at "hp") (mid_one (r := [x, y, g]) (cut_two tu1 (by walk_at "sm")) (t_of (by walk_at "hp"))) (mid_ne (by intro z; simp at z; omega)) er1 wr1 s1 nr, by rw [List.length_append]; show _ + 1 ≤ _; omega⟩
    rintro _ H2 ⟨w2⟩
    obtain ⟨xs2, m2, rfl, ⟨s2, er2, wr2⟩, hx2⟩ := w2 trivial
    -- 2
    refine ⟨fun σ' H' => Wall (∃ (xs : List V) (m : Option V), σ' = [some (V.ref p), some (.int ((A.length : Nat) : Int)), some (.int g), some (.ref r), some (.ref pt), m] ∧ (Same H H' ∧ H' r = some (.lst xs) ∧ Wrongs K r H' xs (A ++ [x, y, z] :: B)) ∧ xs.length ≤ 2), ?_, ?_⟩
    · have hp2 := s2 _ _ hp
      have LP2 := l_of (K := K) hp2
      have tpt2 := same_tup s2 tpt0
      have tla2 := same_tup s2 tla0
      have tu2 := tu.same s2
      walk_at "rd"
      refine wall ⟨_, _, rfl, spoil_end (by assumption) (by walk_at "sm") (by walk_at "sm") (by walk_at "hp") (mid_one (r := [x, y + 1, z]) (cut_two tu2 (by walk_at "sm")) (t_of (by walk_at "hp"))) (mid_ne (by intro z; simp at z; omega)) er2 wr2 s2 nr, by rw [List.length_append]; show _ + 1 ≤ _; omega⟩
    rintro _ H3 ⟨w3⟩
    obtain ⟨xs3, m3, rfl, ⟨s3, er3, wr3⟩, hx3⟩ := w3 trivial
    -- 3
    refine ⟨fun σ' H' => Wall (∃ (xs : List V) (m : Option V), σ' = [some (V.ref p), some (.int ((A.length : Nat) : Int)), some (.int g), some (.ref r), some (.ref pt), m] ∧ (Same H H' ∧ H' r = some (.lst xs) ∧ Wrongs K r H' xs (A ++ [x, y, z] :: B)) ∧ xs.length ≤ 3), ?_, ?_⟩
    · have hp3 := s3 _ _ hp
      have LP3 := l_of (K := K) hp3
      have tpt3 := same_tup s3 tpt0
      have tla3 := same_tup s3 tla0
      have tu3 := tu.same s3
      walk_at "rd"
      refine wall ⟨_, _, rfl, spoil_end (by assumption) (by walk_at "sm") (by walk_at "sm") (by walk_at "hp") (mid_one (r := [x + 1, y, z]) (cut_two tu3 (by walk_at "sm")) (t_of (by walk_at "hp"))) (mid_ne (by intro z; simp at z; omega)) er3 wr3 s3 nr, by rw [List.length_append]; show _ + 1 ≤ _; omega⟩
    rintro _ H4 ⟨w4⟩
    obtain ⟨xs4, m4, rfl, ⟨s4, er4, wr4⟩, hx4⟩ := w4 trivial
    -- 4
    refine ⟨fun σ' H' => Wall (∃ (xs : List V) (m : Option V), σ' = [some (V.ref p), some (.int ((A.length : Nat) : Int)), some (.int g), some (.ref r), some (.ref pt), m] ∧ (Same H H' ∧ H' r = some (.lst xs) ∧ Wrongs K r H' xs (A ++ [x, y, z] :: B)) ∧ xs.length ≤ 4), ?_, ?_⟩
    · have hp4 := s4 _ _ hp
      have LP4 := l_of (K := K) hp4
      have tpt4 := same_tup s4 tpt0
      have tla4 := same_tup s4 tla0
      have tu4 := tu.same s4
      walk_at "rd"
      refine wall ⟨_, _, rfl, spoil_end (by assumption) (by walk_at "sm") (by walk_at "sm") (by walk_at "hp") (mid_zero (cut_two tu4 (by walk_at "sm"))) (len_ne (by simp)) er4 wr4 s4 nr, by rw [List.length_append]; show _ + 1 ≤ _; omega⟩
    rintro _ H5 ⟨w5⟩
    obtain ⟨xs5, m5, rfl, ⟨s5, er5, wr5⟩, hx5⟩ := w5 trivial
    -- 5
    refine ⟨fun σ' H' => Wall (∃ (xs : List V) (m : Option V), σ' = [some (V.ref p), some (.int ((A.length : Nat) : Int)), some (.int g), some (.ref r), some (.ref pt), m] ∧ (Same H H' ∧ H' r = some (.lst xs) ∧ Wrongs K r H' xs (A ++ [x, y, z] :: B)) ∧ xs.length ≤ 5), ?_, ?_⟩
    · have hp5 := s5 _ _ hp
      have LP5 := l_of (K := K) hp5
      have tpt5 := same_tup s5 tpt0
      have tla5 := same_tup s5 tla0
      have tu5 := tu.same s5
      walk_at "rd"
      refine wall ⟨_, _, rfl, spoil_end (by assumption) (by walk_at "sm") (by walk_at "sm") (by walk_at "hp") ((show Tups K _ _ (((A ++ [x, y, z] :: B) ++ [[e + 1, e + 1, g]]).map irow) from (List.map_append (l₁ := A ++ [x, y, z] :: B) (l₂ := [[e + 1, e + 1, g]])) ▸ (tu5.same (by walk_at "sm")).snoc (t_of (by walk_at "hp")))) (len_ne (by simp)) er5 wr5 s5 nr, by rw [List.length_append]; show _ + 1 ≤ _; omega⟩
    rintro _ H6 ⟨w6⟩
    obtain ⟨xs6, m6, rfl, ⟨s6, er6, wr6⟩, hx6⟩ := w6 trivial
    -- 6
    refine ⟨fun σ' H' => Wall (∃ (xs : List V) (m : Option V), σ' = [some (V.ref p), some (.int ((A.length : Nat) : Int)), some (.int g), some (.ref r), some (.ref pt), m] ∧ (Same H H' ∧ H' r = some (.lst xs) ∧ Wrongs K r H' xs (A ++ [x, y, z] :: B)) ∧ xs.length ≤ 6), ?_, ?_⟩
    · have hp6 := s6 _ _ hp
      have LP6 := l_of (K := K) hp6
      have tpt6 := same_tup s6 tpt0
      have tla6 := same_tup s6 tla0
      have tu6 := tu.same s6
      walk_at "rd"
      refine iteD (fun c => ?_) (fun c => ?_)
      · walk_at "rd"
        refine ⟨fun σ' H' => Wall (∃ (xs : List V) (m : Option V), σ' = [some (V.ref p), some (.int ((A.length : Nat) : Int)), some (.int g), some (.ref r), some (.ref pt), m] ∧ (Same H H' ∧ H' r = some (.lst xs) ∧ Wrongs K r H' xs (A ++ [x, y, z] :: B)) ∧ xs.length ≤ 6), ?_, ?_⟩
        · walk_at "rd"
          refine wall ⟨_, _, rfl, spoil_end (by assumption) (by walk_at "sm") (by walk_at "sm") (by walk_at "hp") (mid_two (r := [x, (x + y) / 2, z]) (r2 := [(x + y) / 2 + 1, y, z]) (cut_two tu6 (by walk_at "sm")).1 (cut_two tu6 (by walk_at "sm")).2 (t_of (by walk_at "hp")) (t_of (by walk_at "hp"))) (len_ne (by simp)) er6 wr6 s6 nr, by rw [List.length_append]; show _ + 1 ≤ _; omega⟩
        · rintro σ H7 ⟨w⟩
          exact wall (w trivial)
      · refine wall ⟨_, _, rfl, ⟨s6, er6, wr6⟩, by omega⟩
    rintro _ H7 ⟨w7⟩
    obtain ⟨xs7, m7, rfl, ⟨s7, er7, wr7⟩, hx7⟩ := w7 trivial
    -- 7
    refine ⟨fun σ' H' => Wall (∃ (xs : List V) (m : Option V), σ' = [some (V.ref p), some (.int ((A.length : Nat) : Int)), some (.int g), some (.ref r), some (.ref pt), m] ∧ (Same H H' ∧ H' r = some (.lst xs) ∧ Wrongs K r H' xs (A ++ [x, y, z] :: B)) ∧ xs.length ≤ 8), ?_, ?_⟩
    · have hp7 := s7 _ _ hp
      have LP7 := l_of (K := K) hp7
      have tpt7 := same_tup s7 tpt0
      have tla7 := same_tup s7 tla0
      have tu7 := tu.same s7
      walk_at "rd"
      refine iteD (fun c => ?_) (fun c => ?_)
      · have hBn : B ≠ [] := fun z => by
          have h1 := tu.len
          rw [z, List.length_map, List.length_append, List.length_singleton] at h1
          omega
        obtain ⟨r2, B2, hB2⟩ := List.exists_cons_of_ne_nil hBn
        obtain ⟨x2, y2, z2, hr2, hx2⟩ := hB r2 (by rw [hB2]; exact List.mem_cons_self ..)
        rw [hr2] at hB2
        obtain ⟨qt, hqt, tqt⟩ := tu.get (i := A.length + 1) (r := irow [x2, y2, z2]) (by rw [hB2, List.map_append, List.getElem?_append_right (by rw [List.length_map]; omega), List.length_map, Nat.add_sub_cancel_left]; rfl)
        have hqt' : atI us (((A.length : Nat) : Int) + 1) = some (V.ref qt) := hqt
        have tqt0 : SqT K H qt [.int x2, .int y2, .int z2] := tqt
        have tqt7 := same_tup s7 tqt0
        refine ⟨fun σ' H' => Wall (∃ (xs : List V) (m : Option V), σ' = [some (V.ref p), some (.int ((A.length : Nat) : Int)), some (.int g), some (.ref r), some (.ref pt), m] ∧ (Same H H' ∧ H' r = some (.lst xs) ∧ Wrongs K r H' xs (A ++ [x, y, z] :: B)) ∧ xs.length ≤ 7), ?_, ?_⟩
        · walk_at "rd"
          refine wall ⟨_, _, rfl, spoil_end (by assumption) (by walk_at "sm") (by walk_at "sm") (by walk_at "hp") (mid_one (r := [x, y2, z]) (⟨cut_lo tu7 (by walk_at "sm"), cut_three (hB2 ▸ tu7) (by walk_at "sm")⟩) (t_of (by walk_at "hp"))) (len_ne (by rw [hB2]; simp)) er7 wr7 s7 nr, by rw [List.length_append]; show _ + 1 ≤ _; omega⟩
        rintro _ H8 ⟨w8⟩
        obtain ⟨xs8, m8, rfl, ⟨s8, er8, wr8⟩, hx8⟩ := w8 trivial
        have hp8 := s8 _ _ hp
        have LP8 := l_of (K := K) hp8
        have tpt8 := same_tup s8 tpt0
        have tla8 := same_tup s8 tla0
        have tu8 := tu.same s8
        have tqt8 := same_tup s8 tqt0
        refine ⟨fun σ' H' => Wall (∃ (xs : List V) (m : Option V), σ' = [some (V.ref p), some (.int ((A.length : Nat) : Int)), some (.int g), some (.ref r), some (.ref pt), m] ∧ (Same H H' ∧ H' r = some (.lst xs) ∧ Wrongs K r H' xs (A ++ [x, y, z] :: B)) ∧ xs.length ≤ 8), ?_, ?_⟩
        · walk_at "rd"
          refine wall ⟨_, _, rfl, spoil_end (by assumption) (by walk_at "sm") (by walk_at "sm") (by walk_at "hp") (mid_two (r := [x2, y2, z2]) (r2 := [x, y, z]) (cut_two tu8 (by walk_at "sm")).1 (cut_three (hB2 ▸ tu8) (by walk_at "sm")) (by walk_at "sq") (by walk_at "sq")) (mid_ne (by intro z; simp at z; omega)) er8 wr8 s8 nr, by rw [List.length_append]; show _ + 1 ≤ _; omega⟩
        · rintro σ H9 ⟨w⟩
          exact wall (w trivial)
      · refine wall ⟨_, _, rfl, ⟨s7, er7, wr7⟩, by omega⟩
    rintro _ H9 ⟨w9⟩
    obtain ⟨xs9, m9, rfl, ⟨s9, er9, wr9⟩, hx9⟩ := w9 trivial
    -- 9
    refine ⟨fun σ' H' => Wall (∃ (xs : List V) (m : Option V), σ' = [some (V.ref p), some (.int ((A.length : Nat) : Int)), some (.int g), some (.ref r), some (.ref pt), m] ∧ (Same H H' ∧ H' r = some (.lst xs) ∧ Wrongs K r H' xs (A ++ [x, y, z] :: B)) ∧ xs.length ≤ 9), ?_, ?_⟩
    · have hp9 := s9 _ _ hp
      have LP9 := l_of (K := K) hp9
      have tpt9 := same_tup s9 tpt0
      have tla9 := same_tup s9 tla0
      have tu9 := tu.same s9
      walk_at "rd"
      refine wall ⟨_, _, rfl, spoil_end (by assumption) (by walk_at "sm") (by walk_at "sm") (by walk_at "hp") (show Tups K _ _ (([] : List (List Int)).map irow) from Tups.nil) (len_ne (A := []) (by simp)) er9 wr9 s9 nr, by rw [List.length_append]; show _ + 1 ≤ _; omega⟩
    rintro _ H10 ⟨w10⟩
    obtain ⟨xs10, m10, rfl, ⟨s10, er10, wr10⟩, hx10⟩ := w10 trivial
    walk_at "rd"
    exact q r xs10 H10 s10 nr er10 wr10 hx10
theorem _law_spoilt_go {H : Hp} {Q : VK} {E : XK} {p : Addr} {us : List V} {g : Int} {k : Int} {A : List (List Int)} {x y z : Int} {B : List (List Int)} {L : List (List Int)} {b e s : Int} (hk : k = ((A.length : Nat) : Int)) (hp : H p = some (.lst us)) (tu : Tups K H us ((A ++ [x, y, z] :: B).map irow)) (hl : A.length + B.length ≤ 1000) (hg : g ≠ z) (hB : ∀ r ∈ B, ∃ x' y' z' : Int, r = [x', y', z'] ∧ x ≠ x') (hL : A ++ [x, y, z] :: B = L ++ [[b, e, s]])
    (q : ∀ r xs H', Same H H' → H r = none → H' r = some (.lst xs) → Wrongs K r H' xs (A ++ [x, y, z] :: B) → xs.length ≤ 9 → Q (.ref r) H') : sp__law_spoilt K [.ref p, .int k, .int g] H Q E := by
  subst hk
  unfold sp__law_spoilt
  exact ⟨p, us, g, A, x, y, z, B, L, b, e, s, rfl, hp, tu, hl, hg, hB, hL, q⟩

/-! ### law -/
theorem lim_at (i : Int) (h0 : 0 ≤ i) (h : i < 3) : ∃ z : Int, atI [.int 2, .int 4, .int 1000003] i = some (V.int z) ∧ 0 < z ∧ z < 18446744073709551616 := by
  obtain rfl | rfl | rfl : i = 0 ∨ i = 1 ∨ i = 2 := by omega
  · exact ⟨_, rfl, by decide, by decide⟩
  · exact ⟨_, rfl, by decide, by decide⟩
  · exact ⟨_, rfl, by decide, by decide⟩
theorem sign_at (s : Int) (h : s = 1 ∨ s = 0 ∨ s = -1) : ∃ g : Int, atI [.int 1, .int (-1), .int 0] (s + 1) = some (V.int g) ∧ g ≠ s := by
  rcases h with rfl | rfl | rfl
  · exact ⟨0, rfl, by decide⟩
  · exact ⟨-1, rfl, by decide⟩
  · exact ⟨1, rfl, by decide⟩
theorem split_at {α : Type} {R : List α} {k : Nat} (h : k < R.length) : R = R.take k ++ R[k] :: R.drop (k + 1) ∧ (R.take k).length = k := by
  refine ⟨?_, by rw [List.length_take]; omega⟩
  rw [← List.drop_eq_getElem_cons h, List.take_append_drop]
theorem runs_split {xs ys : List Int} {k : Nat} (h : k < (runsOf xs ys).length) : ∃ (A : List (List Int)) (x y z : Int) (B : List (List Int)), runsOf xs ys = A ++ [x, y, z] :: B ∧ A.length = k ∧ (z = 1 ∨ z = 0 ∨ z = -1) ∧ (∀ r ∈ B, ∃ x' y' z' : Int, r = [x', y', z'] ∧ x ≠ x') := by
  obtain ⟨e, l⟩ := split_at h
  have at_ := runs_at (sgs xs ys) (sgs xs ys).length
  obtain ⟨b, c, j, hr, _⟩ := at_ _ (List.getElem_mem h)
  have pw := runs_pw (sgs xs ys) (sgs xs ys).length
  rw [show runs (sgs xs ys) (sgs xs ys).length = runsOf xs ys from rfl, e] at pw
  have pw2 := (List.pairwise_append.mp pw).2.1
  have hr' : (runsOf xs ys)[k] = [(b : Int), (c : Int), (sgs xs ys).getD j 0] := hr
  rw [hr'] at e pw2
  refine ⟨_, _, _, _, _, e, l, sgs_tri xs ys j, fun r hrm => ?_⟩
  obtain ⟨b2, c2, j2, hr2, _⟩ := at_ r (by
    show r ∈ runsOf xs ys
    exact List.mem_of_mem_drop hrm)
  have := (List.pairwise_cons.mp pw2).1 r hrm
  rw [hr2] at this
  exact ⟨_, _, _, hr2, by
    have h3 : (b : Int) < (b2 : Int) := this
    omega⟩
theorem runs_last {xs ys : List Int} (h : 0 < (runsOf xs ys).length) : ∃ (L : List (List Int)) (b e s : Int), runsOf xs ys = L ++ [[b, e, s]] ∧ (s = 1 ∨ s = 0 ∨ s = -1) := by
  obtain ⟨A, x, y, z, B, hR, hA, hz, _⟩ := runs_split (xs := xs) (ys := ys) (k := (runsOf xs ys).length - 1) (by omega)
  have hB : B = [] := by
    have := congrArg List.length hR
    rw [List.length_append, List.length_cons, hA] at this
    cases B with
    | nil => rfl
    | cons b B => rw [List.length_cons] at this; omega
  subst hB
  exact ⟨A, x, y, z, hR, hz⟩
theorem check_yes {H : Hp} {Q : VK} {E : XK} {c : Addr} {us : List V} {a b : Addr} {xs ys : List Int} (hc : SqL K H c us) (tu : Tups K H us ((runsOf xs ys).map irow)) (ha : SqL K H a (xs.map V.int)) (hb : SqL K H b (ys.map V.int)) (hx : xs.length ≤ 1000) (hy : ys.length ≤ 1000)
    (q : ∀ H', Same H H' → Q (.bl true) H') : sp_check_offers K [.ref c, .ref a, .ref b] H Q E :=
  check_offers_go hc tu ha hb hx hy fun H' s => by rw [decide_eq_true rfl]; exact q H' s
theorem check_no {H : Hp} {Q : VK} {E : XK} {c : Addr} {us : List V} {rs : List (List Int)} {a b : Addr} {xs ys : List Int} (hc : SqL K H c us) (tu : Tups K H us (rs.map irow)) (ne : rs ≠ runsOf xs ys) (ha : SqL K H a (xs.map V.int)) (hb : SqL K H b (ys.map V.int)) (hx : xs.length ≤ 1000) (hy : ys.length ≤ 1000)
    (q : ∀ H', Same H H' → Q (.bl false) H') : sp_check_offers K [.ref c, .ref a, .ref b] H Q E :=
  check_offers_go hc tu ha hb hx hy fun H' s => by rw [decide_eq_false ne]; exact q H' s
theorem ok_law (T : Txt K mg) : FnOk P w K mg base (L2.CX P w) 4 T.a_law T.fd_law ["script"] (sp_law K) := by
  refine T.F_law.ok sc_law (fun vs H Q E h => ?_) (fun cdv A outer s H vs Q E hr h => ?_)
  · obtain ⟨l, ns, rfl, _⟩ := h
    rfl
  · obtain ⟨l, ns, rfl, hs, hn, hb, q⟩ := h
    refine ⟨_, (pss_cons (ps_set (i := 1) sc_law.nd rfl (Or.inr rfl) (pe_ix ix_list (pe_lst (pa_cons pe_int (pa_cons pe_int (pa_cons pe_int pa_nil)))) (pe_op op_mod (pe_callTy call_int1 rfl T.z_int bt_int (pa_cons (pe_callS (ok__law_cell T) (hr.mono (by decide)) rfl T.m__law_cell T.F__law_cell.kp T.b__law_cell (fun σ => passAt (takes_of rfl rfl rfl rfl) σ) (pa_cons (pv 0) (pa_cons pe_int pa_nil))) pa_nil)) pe_int) (fun _ _ => rfl)))
    (pss_cons (ps_set (i := 2) sc_law.nd rfl (Or.inl rfl) (pe_callS (ok__law_draw T) (hr.mono (by decide)) rfl T.m__law_draw T.F__law_draw.kp T.b__law_draw (fun σ => passAt (takes_of rfl rfl rfl rfl) σ) (pa_cons (pe_callS (ok__law_cell T) (hr.mono (by decide)) rfl T.m__law_cell T.F__law_cell.kp T.b__law_cell (fun σ => passAt (takes_of rfl rfl rfl rfl) σ) (pa_cons (pv 0) (pa_cons pe_int pa_nil))) (pa_cons (pe_lc (own := [("k", 3)]) (tt := tYes) rfl sc_law.nd (pi_range1 rfl T.z_range (pa_cons (pe_op op_add pe_int (pe_op op_mod (pe_callTy call_int1 rfl T.z_int bt_int (pa_cons (pe_callS (ok__law_cell T) (hr.mono (by decide)) rfl T.m__law_cell T.F__law_cell.kp T.b__law_cell (fun σ => passAt (takes_of rfl rfl rfl rfl) σ) (pa_cons (pv 0) (pa_cons pe_int pa_nil))) pa_nil)) pe_int)) pa_nil)) (blkOk_by (own := [("k", 3)]) (N := ["script", "limit", "first", "k", "second", "cost", "parts", "sign", "wrong"]) (sc := defScope s_law) (by decide +kernel)) (fun _ _ _ _ _ => (pg_name (i := 3) sc_law.nd rfl (Or.inl rfl))) (fun _ _ _ _ _ => pts_nil) (fun _ _ _ _ _ => (pv 1))) pa_nil))))
    (pss_cons (ps_set (i := 4) sc_law.nd rfl (Or.inl rfl) (pe_callS (ok__law_draw T) (hr.mono (by decide)) rfl T.m__law_draw T.F__law_draw.kp T.b__law_draw (fun σ => passAt (takes_of rfl rfl rfl rfl) σ) (pa_cons (pe_callS (ok__law_cell T) (hr.mono (by decide)) rfl T.m__law_cell T.F__law_cell.kp T.b__law_cell (fun σ => passAt (takes_of rfl rfl rfl rfl) σ) (pa_cons (pv 0) (pa_cons pe_int pa_nil))) (pa_cons (pe_lc (own := [("k", 3)]) (tt := tYes) rfl sc_law.nd (pi_range1 rfl T.z_range (pa_cons (pe_op op_add pe_int (pe_op op_mod (pe_op op_fdivB (pe_callTy call_int1 rfl T.z_int bt_int (pa_cons (pe_callS (ok__law_cell T) (hr.mono (by decide)) rfl T.m__law_cell T.F__law_cell.kp T.b__law_cell (fun σ => passAt (takes_of rfl rfl rfl rfl) σ) (pa_cons (pv 0) (pa_cons pe_int pa_nil))) pa_nil)) pe_int) pe_int)) pa_nil)) (blkOk_by (own := [("k", 3)]) (N := ["script", "limit", "first", "k", "second", "cost", "parts", "sign", "wrong"]) (sc := defScope s_law) (by decide +kernel)) (fun _ _ _ _ _ => (pg_name (i := 3) sc_law.nd rfl (Or.inl rfl))) (fun _ _ _ _ _ => pts_nil) (fun _ _ _ _ _ => (pv 1))) pa_nil))))
    (pss_cons (ps_cut (ps_if (pt_cmpR op_eq (pe_op op_mod (pe_op op_fdivB (pe_callTy call_int1 rfl T.z_int bt_int (pa_cons (pe_callS (ok__law_cell T) (hr.mono (by decide)) rfl T.m__law_cell T.F__law_cell.kp T.b__law_cell (fun σ => passAt (takes_of rfl rfl rfl rfl) σ) (pa_cons (pv 0) (pa_cons pe_int pa_nil))) pa_nil)) pe_int) pe_int) pe_int (nomark _)) (pss_one (ps_setLc (i := 4) (own := [("cost", 5)]) (tt := tYes) rfl sc_law.nd rfl rfl (sw_true rfl rfl rfl (by decide +kernel)) (pi_list (pv 2)) (blkOk_by (own := [("cost", 5)]) (N := ["script", "limit", "first", "k", "second", "cost", "parts", "sign", "wrong"]) (sc := defScope s_law) (by decide +kernel)) (fun _ _ _ _ _ => (pg_name (i := 5) sc_law.nd rfl (Or.inl rfl))) (fun _ _ _ _ _ => pts_nil) (fun _ _ _ _ _ => (pe_op op_sub (pe_op op_add (pv 5) (pe_op op_mod (pe_callTy call_int1 rfl T.z_int bt_int (pa_cons (pe_callS (ok__law_cell T) (hr.mono (by decide)) rfl T.m__law_cell T.F__law_cell.kp T.b__law_cell (fun σ => passXS σ) (pa_cons (pv 0) (pa_cons pe_int pa_nil))) pa_nil)) pe_int)) pe_int)))) pss_nil))
    (pss_cons (ps_set (i := 6) sc_law.nd rfl (Or.inl rfl) (pe_callS (ok__law_runs T) (hr.mono (by decide)) rfl T.m__law_runs T.F__law_runs.kp T.b__law_runs (fun σ => passAt (takes_of rfl rfl rfl rfl) σ) (pa_cons (pv 2) (pa_cons (pv 4) pa_nil))))
    (pss_cons (ps_cut (ps_if (pt_cmpR op_notB (pe_callS (ok_check_offers T) (hr.mono (by decide)) rfl T.m_check_offers T.F_check_offers.kp T.b_check_offers (fun σ => passAt (takes_of rfl rfl rfl rfl) σ) (pa_cons (pe_callTy call_lo rfl T.z_list bt_list (pa_cons (pv 6) pa_nil)) (pa_cons (pe_callTy call_lo rfl T.z_list bt_list (pa_cons (pv 2) pa_nil)) (pa_cons (pe_callTy call_lo rfl T.z_list bt_list (pa_cons (pv 4) pa_nil)) pa_nil)))) pe_bl (nomark _)) (pss_one (ps_ret pe_bl)) pss_nil))
    (pss_cons (ps_set (i := 3) sc_law.nd rfl (Or.inl rfl) (pe_op op_mod (pe_callTy call_int1 rfl T.z_int bt_int (pa_cons (pe_callS (ok__law_cell T) (hr.mono (by decide)) rfl T.m__law_cell T.F__law_cell.kp T.b__law_cell (fun σ => passAt (takes_of rfl rfl rfl rfl) σ) (pa_cons (pv 0) (pa_cons pe_int pa_nil))) pa_nil)) (pe_callB call_ln rfl T.z_len bt_len (pa_cons (pv 6) pa_nil))))
    (pss_cons (ps_set (i := 7) sc_law.nd rfl (Or.inl rfl) (pe_ix ix_list (pe_lst (pa_cons pe_int (pa_cons (pe_un un_neg pe_int) (pa_cons pe_int pa_nil)))) (pe_op op_add (pe_ix ix_tup (pe_ix ix_list (pv 6) (pv 3) (fun _ _ => rfl)) pe_int (fun _ _ => rfl)) pe_int) (fun _ _ => rfl)))
    (pss_cons (ps_for (passes_of rfl) rfl (pi_list (pe_op op_ct (pe_callS (ok__law_spoilt T) (hr.mono (by decide)) rfl T.m__law_spoilt T.F__law_spoilt.kp T.b__law_spoilt (fun σ => passAt (takes_of rfl rfl rfl rfl) σ) (pa_cons (pv 6) (pa_cons (pv 3) (pa_cons (pv 7) pa_nil)))) (pe_callS (ok__law_spoilt T) (hr.mono (by decide)) rfl T.m__law_spoilt T.F__law_spoilt.kp T.b__law_spoilt (fun σ => passAt (takes_of rfl rfl rfl rfl) σ) (pa_cons (pv 6) (pa_cons (pe_op op_sub (pe_callB call_ln rfl T.z_len bt_len (pa_cons (pv 6) pa_nil)) pe_int) (pa_cons (pe_op op_add (pe_op op_sub pe_int pe_int) (pe_op op_mulB pe_int (pe_callTy call_int1 rfl T.z_int bt_int (pa_cons (pe_cmpR op_lt (pe_ix ix_tup (pe_ix ix_list (pv 6) (pe_un un_neg pe_int) (fun _ _ => rfl)) pe_int (fun _ _ => rfl)) pe_int (nomark _)) pa_nil)))) pa_nil)))))) (pg_name (i := 8) sc_law.nd rfl (Or.inl rfl))
      (pss_one (ps_if (pt_cmpR op_notB (pe_callS (ok_check_offers T) (hr.mono (by decide)) rfl T.m_check_offers T.F_check_offers.kp T.b_check_offers (fun σ => passAt (takes_of rfl rfl rfl rfl) σ) (pa_cons (pv 8) (pa_cons (pe_callTy call_lo rfl T.z_list bt_list (pa_cons (pv 2) pa_nil)) (pa_cons (pe_callTy call_lo rfl T.z_list bt_list (pa_cons (pv 4) pa_nil)) pa_nil)))) pe_bl (nomark _)) (pss_one (ps_ret pe_bl)) pss_nil)))
    (pss_one (ps_ret (pe_cmpR op_isB (pe_callS (ok_check_offers T) (hr.mono (by decide)) rfl T.m_check_offers T.F_check_offers.kp T.b_check_offers (fun σ => passAt (takes_of rfl rfl rfl rfl) σ) (pa_cons (pe_callTy call_lo rfl T.z_list bt_list (pa_cons (pv 6) pa_nil)) (pa_cons (pe_callTy call_lo rfl T.z_list bt_list (pa_cons (pv 2) pa_nil)) (pa_cons (pe_callTy call_lo rfl T.z_list bt_list (pa_cons (pv 4) pa_nil)) pa_nil)))) pe_bl (nomark _))))))))))))), ?_⟩
    obtain ⟨lim, hlim, hl0, hl1⟩ := lim_at (cell ns 1 % 3) (by omega) (by omega)
    walk_at "rd"
    refine ⟨by omega, by omega, fun W hW => lc_rgm (n := (1 + cell ns 0 % 30).toNat) (fun _ => .int lim) hW (by rw [sizeLine_eq]; omega) (fun i H2 N acc hi s2 e2 hl k => ?_) fun H2 s2 e2 => ?_⟩
    · walk_at "rd"
      exact ⟨acc, e2, hl, k _ (same_set s2 hW) upd_same⟩
    have bnd1 : (1 + cell ns 0 % 30).toNat ≤ 30 ∧ 0 < (1 + cell ns 0 % 30).toNat := by omega
    refine draw_rep_go e2 (cell_sz hb _) hl0 hl1 (by omega) fun a xs H3 s3 na ea hxl hxv => ?_
    have s03 : Same H H3 := Same.trans (fun b o e => s2 b o (by walk_at "hp")) s3
    have hs3 := same_lst s03 hs
    walk_at "rd"
    refine ⟨by omega, by omega, fun W2 hW2 => lc_rgm (n := (1 + cell ns 0 / 30 % 30).toNat) (fun _ => .int lim) hW2 (by rw [sizeLine_eq]; omega) (fun i H4 N acc hi s4 e4 hl k => ?_) fun H4 s4 e4 => ?_⟩
    · walk_at "rd"
      exact ⟨acc, e4, hl, k _ (same_set s4 hW2) upd_same⟩
    have bnd2 : (1 + cell ns 0 / 30 % 30).toNat ≤ 30 ∧ 0 < (1 + cell ns 0 / 30 % 30).toNat := by omega
    refine draw_rep_go e4 (cell_sz hb _) hl0 hl1 (by omega) fun b ys0 H5 s5 nb eb hyl hyv => ?_
    have s35 : Same H3 H5 := s4.trans s5
    have hs5 := same_lst s35 hs3
    have ea5 := s35 _ _ ea
    have Lx5 := l_of (K := K) ea5
    walk_at "rd"
    refine ⟨fun σ' H' => Wall (∃ (b' : Addr) (ys : List Int) (kk : Option V), σ' = [some (.ref l), some (.int lim), some (.ref a), none, some (.ref b'), none, none, none, none] ∧ SqL K H' l (ns.map V.int) ∧ H' a = some (.lst (xs.map V.int)) ∧ SqL K H' b' (ys.map V.int) ∧ ys.length ≤ 30 ∧ 0 < ys.length), ?_, ?_⟩
    · walk_at "rd"
      refine iteI (fun _ => ?_) (fun _ => ?_)
      · walk_at "rd"
        refine ⟨⟨_, Lx5⟩, fun W3 hW3 => ?_⟩
        refine lc_mp (xs := xs.map V.int) (fun x => .int ((match x with | .int i => i | _ => 0) + cell ns 4 % 3 - 1)) hW3 Lx5 (by rw [List.length_map, sizeLine_eq]; omega) (fun i x H6 N acc hx s6 e6 hl k => ?_) fun H6 s6 e6 => ?_
        · rw [List.getElem?_map] at hx
          cases hz : xs[i]? with
          | none => rw [hz] at hx; cases hx
          | some z =>
            rw [hz] at hx
            cases hx
            have hs6 := same_lst s6 hs5
            walk_at "rd"
            exact ⟨acc, e6, hl, k _ (same_set s6 hW3) upd_same⟩
        walk_at "rd"
        refine wall ⟨_, xs.map (fun i => i + cell ns 4 % 3 - 1), none, rfl, same_lst s6 hs5, s6 _ _ ea5, l_of ?_, ?_, ?_⟩
        · rw [e6, List.map_map, List.map_map]
          rfl
        · rw [List.length_map]; omega
        · rw [List.length_map]; omega
      · walk_at "rd"
        exact wall ⟨b, ys0, none, rfl, hs5, ea5, l_of eb, by omega, by omega⟩
    rintro _ H6 ⟨w6⟩
    obtain ⟨b', ys, _, rfl, hs6, ea6, Ly6, hy1, hy0⟩ := w6 trivial
    have hxb : xs.length ≤ 1000 := by omega
    have hyb : ys.length ≤ 1000 := by omega
    have Lx6 := l_of (K := K) ea6
    walk_at "rd"
    intro p us H7 s7 np ep tu
    have hs7 := same_lst s7 hs6
    have Lx7 := same_lst s7 Lx6
    have Ly7 := same_lst s7 Ly6
    have Lp7 := l_of (K := K) ep
    generalize hR : runsOf xs ys = R at *
    have hRpos : 0 < R.length := by
      rw [← hR]
      unfold runsOf
      refine runs_pos _ _ ?_
      rw [sgs_len]
      omega
    have hRle : R.length ≤ 60 := by
      rw [← hR]
      refine Nat.le_trans (runs_len _ _) ?_
      rw [sgs_len]
      omega
    have hul : us.length = R.length := by rw [tu.len, List.length_map]
    have hRS : ∀ {k : Nat}, k < R.length → ∃ (A : List (List Int)) (x y z : Int) (B : List (List Int)), R = A ++ [x, y, z] :: B ∧ A.length = k ∧ (z = 1 ∨ z = 0 ∨ z = -1) ∧ (∀ r ∈ B, ∃ x' y' z' : Int, r = [x', y', z'] ∧ x ≠ x') := fun hk => hR ▸ runs_split (hR ▸ hk)
    obtain ⟨L, lb, le, ls, hL, hls⟩ : ∃ (L : List (List Int)) (b e s : Int), R = L ++ [[b, e, s]] ∧ (s = 1 ∨ s = 0 ∨ s = -1) := hR ▸ runs_last (hR ▸ hRpos)
    walk_at "rd"
    refine ⟨fun σ' H' => Wall (σ' = [some (.ref l), some (.int lim), some (.ref a), none, some (.ref b'), none, some (.ref p), none, none] ∧ Same H7 H'), ?_, ?_⟩
    · walk_at "rd"
      refine check_yes (l_of (by walk_at "hp")) (hR ▸ tu.same (by walk_at "sm")) (l_of (by walk_at "hp")) (l_of (by walk_at "hp")) hxb hyb fun H8 s8 => ?_
      walk_at "rd"
      exact wall ⟨rfl, Same.trans (by walk_at "sm") s8⟩
    rintro _ H8 ⟨w8⟩
    obtain ⟨rfl, s8⟩ := w8 trivial
    have hs8 := same_lst s8 hs7
    have ep8 := s8 _ _ ep
    have Lp8 := l_of (K := K) ep8
    have tu8 := tu.same s8
    have Lx8 := same_lst s8 Lx7
    have Ly8 := same_lst s8 Ly7
    have hu0 : (0 : Int) < ((us.length : Nat) : Int) := by omega
    have hk0 : 0 ≤ cell ns 5 % ((us.length : Nat) : Int) := Int.emod_nonneg _ (by omega)
    have hk1 : cell ns 5 % ((us.length : Nat) : Int) < ((us.length : Nat) : Int) := Int.emod_lt_of_pos _ hu0
    obtain ⟨kn, hkn⟩ : ∃ kn : Nat, cell ns 5 % ((us.length : Nat) : Int) = kn := ⟨_, (Int.toNat_of_nonneg hk0).symm⟩
    obtain ⟨A, x, y, z, B, hA, hAl, hz, hB⟩ := hRS (k := kn) (by omega)
    obtain ⟨pt, hpt, tpt⟩ := tu8.get (i := kn) (r := irow [x, y, z]) (by rw [hA, List.map_append, List.getElem?_append_right (by rw [List.length_map]; omega), List.length_map, hAl, Nat.sub_self]; rfl)
    have tpt0 : SqT K H8 pt [.int x, .int y, .int z] := tpt
    rw [← hkn] at hpt
    obtain ⟨g, hg, hgz⟩ := sign_at z hz
    have tuL := tu8
    rw [hL, List.map_append] at tuL
    obtain ⟨la, hla, tla⟩ := tuL.last
    have tla0 : SqT K H8 la [.int lb, .int le, .int ls] := tla
    walk_at "rd"
    rename_i gl ngl
    have e81 : (upd H8 gl (.lst [.int 1, .int (-1), .int 0])) p = some (.lst us) := hp_upd ngl ep8
    have tu81 := tu8.upd (o := .lst [.int 1, .int (-1), .int 0]) ngl
    refine _law_spoilt_go (hk := hkn.trans (by rw [hAl])) e81 (hA ▸ tu81) (by have := congrArg List.length hA; rw [List.length_append, List.length_cons] at this; omega) hgz hB (L := L) (b := lb) (e := le) (s := ls) (by rw [← hA]; exact hL) fun r1 xs1 H9 s9 nr1 er1 wr1 hx1 => ?_
    have s89 : Same H8 H9 := (same_new (Same.refl H8) ngl).trans s9
    have ep9 := s89 _ _ ep8
    have Lp9 := l_of (K := K) ep9
    have tla9 := same_tup s89 tla0
    walk_at "rd"
    have hLl : L.length + 1 = R.length := by rw [hL, List.length_append]; rfl
    have hg2 : (0 : Int) - 1 + 2 * (if decide (ls < 1) = true then 1 else 0) ≠ ls := by
      rcases hls with rfl | rfl | rfl <;> decide
    refine _law_spoilt_go (A := L) (B := []) (x := lb) (y := le) (z := ls) (hk := by omega) ep9 (hL ▸ tu8.same s89) (by show L.length + 0 ≤ 1000; omega) hg2 (fun r hr => by cases hr) (L := L) (b := lb) (e := le) (s := ls) rfl fun r2 xs2 H10 s10 nr2 er2 wr2 hx2 => ?_
    have er1' := s10 _ _ er1
    have wr1' := wr1.same s10
    refine ct_go er1' er2 (by rw [sizeLine_eq]; omega) fun r3 nr3 => ?_
    have s11 : Same H8 (upd H10 r3 (.lst (xs1 ++ xs2))) := same_new (s89.trans s10) nr3
    have hwr : ∀ v ∈ xs1 ++ xs2, ∃ (p : Addr) (vs : List V) (rows : List (List Int)), v = .ref p ∧ (upd H10 r3 (.lst (xs1 ++ xs2))) p = some (.lst vs) ∧ Tups K (upd H10 r3 (.lst (xs1 ++ xs2))) vs (rows.map irow) ∧ rows ≠ R := fun v hv => by
      rcases List.mem_append.mp hv with hv | hv
      · obtain ⟨p, vs, rows, h1, _, h3, h4, h5⟩ := wr1' v hv
        exact ⟨p, vs, rows, h1, hp_upd nr3 h3, h4.upd nr3, hA ▸ h5⟩
      · obtain ⟨p, vs, rows, h1, _, h3, h4, h5⟩ := wr2 v hv
        exact ⟨p, vs, rows, h1, hp_upd nr3 h3, h4.upd nr3, hL ▸ h5⟩
    have Lr3 : SqL K (upd H10 r3 (.lst (xs1 ++ xs2))) r3 (xs1 ++ xs2) := l_of upd_same
    have hs11 := same_lst s11 hs8
    have Lp11 := same_lst s11 Lp8
    have tu11 := tu8.same s11
    have Lx11 := same_lst s11 Lx8
    have Ly11 := same_lst s11 Ly8
    generalize upd H10 r3 (.lst (xs1 ++ xs2)) = H11 at *
    refine ⟨_, rfl, ⟨_, Lr3⟩, for_list (xs := xs1 ++ xs2) (fun i σ H' => ∃ m : Option V, σ = [some (.ref l), some (.int lim), some (.ref a), some (.int (cell ns 5 % ((us.length : Nat) : Int))), some (.ref b'), none, some (.ref p), some (.int g), m] ∧ Same H11 H') ⟨none, rfl, Same.refl _⟩ (fun i σ H' _ e => by obtain ⟨_, _, e⟩ := e; exact same_lst e Lr3) ?_ ?_⟩
    · rintro i v σ H12 hv ⟨m, rfl, s12⟩
      obtain ⟨w, vs, rows, rfl, h1, h2, h3⟩ := hwr v (List.mem_of_getElem? hv)
      have Lx12 := same_lst s12 Lx11
      have Ly12 := same_lst s12 Ly11
      have h1' := s12 _ _ h1
      walk_at "rd"
      refine check_no (rs := rows) (l_of (by walk_at "hp")) ((h2.same s12).same (by walk_at "sm")) (hR ▸ h3) (by walk_at "sq") (by walk_at "sq") hxb hyb fun H13 s13 => ?_
      walk_at "rd"
      exact s12.trans (Same.trans (by walk_at "sm") s13)
    · rintro σ H12 ⟨m, rfl, s12⟩
      have Lx12 := same_lst s12 Lx11
      have Ly12 := same_lst s12 Ly11
      have Lp12 := same_lst s12 Lp11
      walk_at "rd"
      refine check_yes (l_of (by walk_at "hp")) (hR ▸ (tu11.same s12).same (by walk_at "sm")) (by walk_at "sq") (by walk_at "sq") hxb hyb fun H13 s13 => ?_
      walk_at "rd"
      exact q _

end
theorem all_mk {w : World} {K : PySem.W.Frag} {h : Heap} {mg : Str → Option Value} {fa : Addr} (X : K.In h) (G : h.Ns mainGlobals mg) (hfa : mg "law" = some (.ref fa))
    {f_sign_of : Addr} {oc_sign_of kV_sign_of dc_sign_of pm_sign_of cd_sign_of ct_sign_of : Value} {od_sign_of an_sign_of : Option Addr} {sl_sign_of : Array (Option Value)}
    {f_stretches_of : Addr} {oc_stretches_of kV_stretches_of dc_stretches_of pm_stretches_of cd_stretches_of ct_stretches_of : Value} {od_stretches_of an_stretches_of : Option Addr} {sl_stretches_of : Array (Option Value)}
    {f_check_offers : Addr} {oc_check_offers kV_check_offers dc_check_offers pm_check_offers cd_check_offers ct_check_offers : Value} {od_check_offers an_check_offers : Option Addr} {sl_check_offers : Array (Option Value)}
    {f__law_cell : Addr} {oc__law_cell kV__law_cell dc__law_cell pm__law_cell cd__law_cell ct__law_cell : Value} {od__law_cell an__law_cell : Option Addr} {sl__law_cell : Array (Option Value)}
    {f__law_draw : Addr} {oc__law_draw kV__law_draw dc__law_draw pm__law_draw cd__law_draw ct__law_draw : Value} {od__law_draw an__law_draw : Option Addr} {sl__law_draw : Array (Option Value)}
    {f__law_sign : Addr} {oc__law_sign kV__law_sign dc__law_sign pm__law_sign cd__law_sign ct__law_sign : Value} {od__law_sign an__law_sign : Option Addr} {sl__law_sign : Array (Option Value)}
    {f__law_runs : Addr} {oc__law_runs kV__law_runs dc__law_runs pm__law_runs cd__law_runs ct__law_runs : Value} {od__law_runs an__law_runs : Option Addr} {sl__law_runs : Array (Option Value)}
    {f__law_spoilt : Addr} {oc__law_spoilt kV__law_spoilt dc__law_spoilt pm__law_spoilt cd__law_spoilt ct__law_spoilt : Value} {od__law_spoilt an__law_spoilt : Option Addr} {sl__law_spoilt : Array (Option Value)}
    {f_law : Addr} {oc_law kV_law dc_law pm_law cd_law ct_law : Value} {od_law an_law : Option Addr} {sl_law : Array (Option Value)}
    (a_sign_of : PySem.W.nsIn K mainGlobals "sign_of" = some (some (.ref f_sign_of)))
    (l_sign_of : K.lookup f_sign_of = some ⟨oc_sign_of, od_sign_of, .func (PySem.W.fnOf "sign_of" "sign_of" (defArgs s_sign_of) (defBody s_sign_of) (defScope s_sign_of) .none kV_sign_of dc_sign_of pm_sign_of an_sign_of cd_sign_of ct_sign_of), sl_sign_of⟩)
    (c_sign_of : PySem.W.codeIn K cd_sign_of "sign_of" = true)
    (k_sign_of : PySem.W.keepIn K (.ref f_sign_of) = true)
    (a_stretches_of : PySem.W.nsIn K mainGlobals "stretches_of" = some (some (.ref f_stretches_of)))
    (l_stretches_of : K.lookup f_stretches_of = some ⟨oc_stretches_of, od_stretches_of, .func (PySem.W.fnOf "stretches_of" "stretches_of" (defArgs s_stretches_of) (defBody s_stretches_of) (defScope s_stretches_of) .none kV_stretches_of dc_stretches_of pm_stretches_of an_stretches_of cd_stretches_of ct_stretches_of), sl_stretches_of⟩)
    (c_stretches_of : PySem.W.codeIn K cd_stretches_of "stretches_of" = true)
    (k_stretches_of : PySem.W.keepIn K (.ref f_stretches_of) = true)
    (a_check_offers : PySem.W.nsIn K mainGlobals "check_offers" = some (some (.ref f_check_offers)))
    (l_check_offers : K.lookup f_check_offers = some ⟨oc_check_offers, od_check_offers, .func (PySem.W.fnOf "check_offers" "check_offers" (defArgs s_check_offers) (defBody s_check_offers) (defScope s_check_offers) .none kV_check_offers dc_check_offers pm_check_offers an_check_offers cd_check_offers ct_check_offers), sl_check_offers⟩)
    (c_check_offers : PySem.W.codeIn K cd_check_offers "check_offers" = true)
    (k_check_offers : PySem.W.keepIn K (.ref f_check_offers) = true)
    (a__law_cell : PySem.W.nsIn K mainGlobals "_law_cell" = some (some (.ref f__law_cell)))
    (l__law_cell : K.lookup f__law_cell = some ⟨oc__law_cell, od__law_cell, .func (PySem.W.fnOf "_law_cell" "_law_cell" (defArgs s__law_cell) (defBody s__law_cell) (defScope s__law_cell) .none kV__law_cell dc__law_cell pm__law_cell an__law_cell cd__law_cell ct__law_cell), sl__law_cell⟩)
    (c__law_cell : PySem.W.codeIn K cd__law_cell "_law_cell" = true)
    (k__law_cell : PySem.W.keepIn K (.ref f__law_cell) = true)
    (a__law_draw : PySem.W.nsIn K mainGlobals "_law_draw" = some (some (.ref f__law_draw)))
    (l__law_draw : K.lookup f__law_draw = some ⟨oc__law_draw, od__law_draw, .func (PySem.W.fnOf "_law_draw" "_law_draw" (defArgs s__law_draw) (defBody s__law_draw) (defScope s__law_draw) .none kV__law_draw dc__law_draw pm__law_draw an__law_draw cd__law_draw ct__law_draw), sl__law_draw⟩)
    (c__law_draw : PySem.W.codeIn K cd__law_draw "_law_draw" = true)
    (k__law_draw : PySem.W.keepIn K (.ref f__law_draw) = true)
    (a__law_sign : PySem.W.nsIn K mainGlobals "_law_sign" = some (some (.ref f__law_sign)))
    (l__law_sign : K.lookup f__law_sign = some ⟨oc__law_sign, od__law_sign, .func (PySem.W.fnOf "_law_sign" "_law_sign" (defArgs s__law_sign) (defBody s__law_sign) (defScope s__law_sign) .none kV__law_sign dc__law_sign pm__law_sign an__law_sign cd__law_sign ct__law_sign), sl__law_sign⟩)
    (c__law_sign : PySem.W.codeIn K cd__law_sign "_law_sign" = true)
    (k__law_sign : PySem.W.keepIn K (.ref f__law_sign) = true)
    (a__law_runs : PySem.W.nsIn K mainGlobals "_law_runs" = some (some (.ref f__law_runs)))
    (l__law_runs : K.lookup f__law_runs = some ⟨oc__law_runs, od__law_runs, .func (PySem.W.fnOf "_law_runs" "_law_runs" (defArgs s__law_runs) (defBody s__law_runs) (defScope s__law_runs) .none kV__law_runs dc__law_runs pm__law_runs an__law_runs cd__law_runs ct__law_runs), sl__law_runs⟩)
    (c__law_runs : PySem.W.codeIn K cd__law_runs "_law_runs" = true)
    (k__law_runs : PySem.W.keepIn K (.ref f__law_runs) = true)
    (a__law_spoilt : PySem.W.nsIn K mainGlobals "_law_spoilt" = some (some (.ref f__law_spoilt)))
    (l__law_spoilt : K.lookup f__law_spoilt = some ⟨oc__law_spoilt, od__law_spoilt, .func (PySem.W.fnOf "_law_spoilt" "_law_spoilt" (defArgs s__law_spoilt) (defBody s__law_spoilt) (defScope s__law_spoilt) .none kV__law_spoilt dc__law_spoilt pm__law_spoilt an__law_spoilt cd__law_spoilt ct__law_spoilt), sl__law_spoilt⟩)
    (c__law_spoilt : PySem.W.codeIn K cd__law_spoilt "_law_spoilt" = true)
    (k__law_spoilt : PySem.W.keepIn K (.ref f__law_spoilt) = true)
    (a_law : PySem.W.nsIn K mainGlobals "law" = some (some (.ref f_law)))
    (l_law : K.lookup f_law = some ⟨oc_law, od_law, .func (PySem.W.fnOf "law" "law" (defArgs s_law) (defBody s_law) (defScope s_law) .none kV_law dc_law pm_law an_law cd_law ct_law), sl_law⟩)
    (c_law : PySem.W.codeIn K cd_law "law" = true)
    (k_law : PySem.W.keepIn K (.ref f_law) = true)
    (z_range : PySem.W.nsIn K mainGlobals "range" = some none)
    (z_zip : PySem.W.nsIn K mainGlobals "zip" = some none)
    (z_len : PySem.W.nsIn K mainGlobals "len" = some none)
    (z_list : PySem.W.nsIn K mainGlobals "list" = some none)
    (z_abs : PySem.W.nsIn K mainGlobals "abs" = some none)
    (z_int : PySem.W.nsIn K mainGlobals "int" = some none)
    (z_min : PySem.W.nsIn K mainGlobals "min" = some none)
    : ∃ fd : FuncData, (∀ (s : Shared) (u : Value), BindsTo s fd ⟨[u], []⟩ [("script", u)]) ∧ ∀ base : Heap, K.In base → base.Ns mainGlobals mg → FnOk P w K mg base (L2.CX P w) 4 fa fd ["script"] (sp_law K) := by
  let T : Txt K mg := {
    a_sign_of := f_sign_of, fd_sign_of := _, F_sign_of := fun_of l_sign_of c_sign_of k_sign_of, m_sign_of := PySem.W.mg_of X G a_sign_of, b_sign_of := (fun_of l_sign_of c_sign_of k_sign_of).bindsN fun _ _ _ _ _ _ us hl => match us, hl with | [_, _], _ => rfl,
    a_stretches_of := f_stretches_of, fd_stretches_of := _, F_stretches_of := fun_of l_stretches_of c_stretches_of k_stretches_of, m_stretches_of := PySem.W.mg_of X G a_stretches_of, b_stretches_of := (fun_of l_stretches_of c_stretches_of k_stretches_of).bindsN fun _ _ _ _ _ _ us hl => match us, hl with | [_, _], _ => rfl,
    a_check_offers := f_check_offers, fd_check_offers := _, F_check_offers := fun_of l_check_offers c_check_offers k_check_offers, m_check_offers := PySem.W.mg_of X G a_check_offers, b_check_offers := (fun_of l_check_offers c_check_offers k_check_offers).bindsN fun _ _ _ _ _ _ us hl => match us, hl with | [_, _, _], _ => rfl,
    a__law_cell := f__law_cell, fd__law_cell := _, F__law_cell := fun_of l__law_cell c__law_cell k__law_cell, m__law_cell := PySem.W.mg_of X G a__law_cell, b__law_cell := (fun_of l__law_cell c__law_cell k__law_cell).bindsN fun _ _ _ _ _ _ us hl => match us, hl with | [_, _], _ => rfl,
    a__law_draw := f__law_draw, fd__law_draw := _, F__law_draw := fun_of l__law_draw c__law_draw k__law_draw, m__law_draw := PySem.W.mg_of X G a__law_draw, b__law_draw := (fun_of l__law_draw c__law_draw k__law_draw).bindsN fun _ _ _ _ _ _ us hl => match us, hl with | [_, _], _ => rfl,
    a__law_sign := f__law_sign, fd__law_sign := _, F__law_sign := fun_of l__law_sign c__law_sign k__law_sign, m__law_sign := PySem.W.mg_of X G a__law_sign, b__law_sign := (fun_of l__law_sign c__law_sign k__law_sign).bindsN fun _ _ _ _ _ _ us hl => match us, hl with | [_], _ => rfl,
    a__law_runs := f__law_runs, fd__law_runs := _, F__law_runs := fun_of l__law_runs c__law_runs k__law_runs, m__law_runs := PySem.W.mg_of X G a__law_runs, b__law_runs := (fun_of l__law_runs c__law_runs k__law_runs).bindsN fun _ _ _ _ _ _ us hl => match us, hl with | [_, _], _ => rfl,
    a__law_spoilt := f__law_spoilt, fd__law_spoilt := _, F__law_spoilt := fun_of l__law_spoilt c__law_spoilt k__law_spoilt, m__law_spoilt := PySem.W.mg_of X G a__law_spoilt, b__law_spoilt := (fun_of l__law_spoilt c__law_spoilt k__law_spoilt).bindsN fun _ _ _ _ _ _ us hl => match us, hl with | [_, _, _], _ => rfl,
    a_law := f_law, fd_law := _, F_law := fun_of l_law c_law k_law, m_law := PySem.W.mg_of X G a_law, b_law := (fun_of l_law c_law k_law).bindsN fun _ _ _ _ _ _ us hl => match us, hl with | [_], _ => rfl,
    z_range := PySem.W.mg_none_of X G z_range,
    z_zip := PySem.W.mg_none_of X G z_zip,
    z_len := PySem.W.mg_none_of X G z_len,
    z_list := PySem.W.mg_none_of X G z_list,
    z_abs := PySem.W.mg_none_of X G z_abs,
    z_int := PySem.W.mg_none_of X G z_int,
    z_min := PySem.W.mg_none_of X G z_min }
  have e := hfa.symm.trans T.m_law
  cases e
  exact ⟨_, fun s u => T.F_law.bindsA (ps := ["script"]) (fun _ _ _ _ _ _ us hl => match us, hl with | [_], _ => rfl) s [u] rfl, fun base _ _ => (ok_law T).mono (by decide)⟩
end My
open PySem PySem.W PyProof.Rows
set_option maxRecDepth 100000 in
set_option maxHeartbeats 0 in
theorem PySem.Challenge.cw_lendbook_k75_comparisons_are_judged_holds : PySem.Challenge.rw_lendbook_k75_comparisons_are_judged.Holds := by
  w_on; o_law; k_head; (case hw => w_witness2)
  k_fill
  refine LB.walk (l := PySem.Challenge.rw_lendbook_k75_comparisons_are_judged) (k := 4) rfl rfl ⟨rfl, by decide, by decide⟩ (fun w h Y => PySem.W.kIn_of Y) ?F
  case F =>
    intro w mg fa h KX G hmg
    refine' My.all_mk KX G hmg ?a_sign_of ?l_sign_of ?c_sign_of ?k_sign_of ?a_stretches_of ?l_stretches_of ?c_stretches_of ?k_stretches_of ?a_check_offers ?l_check_offers ?c_check_offers ?k_check_offers ?a__law_cell ?l__law_cell ?c__law_cell ?k__law_cell ?a__law_draw ?l__law_draw ?c__law_draw ?k__law_draw ?a__law_sign ?l__law_sign ?c__law_sign ?k__law_sign ?a__law_runs ?l__law_runs ?c__law_runs ?k__law_runs ?a__law_spoilt ?l__law_spoilt ?c__law_spoilt ?k__law_spoilt ?a_law ?l_law ?c_law ?k_law ?z_range ?z_zip ?z_len ?z_list ?z_abs ?z_int ?z_min
    (case a_sign_of => k_is)
    (case l_sign_of => k_is)
    (case c_sign_of => k_is)
    (case k_sign_of => k_is)
    (case a_stretches_of => k_is)
    (case l_stretches_of => k_is)
    (case c_stretches_of => k_is)
    (case k_stretches_of => k_is)
    (case a_check_offers => k_is)
    (case l_check_offers => k_is)
    (case c_check_offers => k_is)
    (case k_check_offers => k_is)
    (case a__law_cell => k_is)
    (case l__law_cell => k_is)
    (case c__law_cell => k_is)
    (case k__law_cell => k_is)
    (case a__law_draw => k_is)
    (case l__law_draw => k_is)
    (case c__law_draw => k_is)
    (case k__law_draw => k_is)
    (case a__law_sign => k_is)
    (case l__law_sign => k_is)
    (case c__law_sign => k_is)
    (case k__law_sign => k_is)
    (case a__law_runs => k_is)
    (case l__law_runs => k_is)
    (case c__law_runs => k_is)
    (case k__law_runs => k_is)
    (case a__law_spoilt => k_is)
    (case l__law_spoilt => k_is)
    (case c__law_spoilt => k_is)
    (case k__law_spoilt => k_is)
    (case a_law => k_is)
    (case l_law => k_is)
    (case c_law => k_is)
    (case k_law => k_is)
    (case z_range => k_is)
    (case z_zip => k_is)
    (case z_len => k_is)
    (case z_list => k_is)
    (case z_abs => k_is)
    (case z_int => k_is)
    (case z_min => k_is)
