import PyProof.Rows.All
import Wide.All
import OpenK.AllK
import Wide.FinOn
import HandS.ForExc
import HandS.Comp
import HandS.Defaults
import HandS.IsInst
import HandS.Wide
import HandS.EndBits
import HandS.TryMany
import HandS.ExcField
import HandS.ExcInit
import HandS.Evl
import HandS.Gcd
import HandS.Nested
import HandS.FStr
import KE.KExcSuper
import HandS.ExcIs
import HandS.Iter
import PySem.Challenge.RW_lendbook_k67_factor_proofs_are_judged
set_option Elab.async false
set_option linter.all false
set_option maxRecDepth 100000
set_option maxHeartbeats 4000000
/-! own small rules over the hand layer -/
namespace LB
open PySem PySem.Spec PyProof.Rows L2
theorem bt_int : bootBuiltins "int" = some (.type "int") := by decide +kernel
theorem bt_bool : bootBuiltins "bool" = some (.type "bool") := by decide +kernel
theorem bt_str : bootBuiltins "str" = some (.type "str") := by decide +kernel
theorem bt_list : bootBuiltins "list" = some (.type "list") := by decide +kernel
theorem bt_tuple : bootBuiltins "tuple" = some (.type "tuple") := by decide +kernel
theorem bt_dict : bootBuiltins "dict" = some (.type "dict") := by decide +kernel
theorem bt_set : bootBuiltins "set" = some (.type "set") := by decide +kernel
theorem bt_range : bootBuiltins "range" = some (.type "range") := by decide +kernel
theorem bt_len : bootBuiltins "len" = some (.builtin "len") := by decide +kernel
theorem bt_abs : bootBuiltins "abs" = some (.builtin "abs") := by decide +kernel
theorem bt_isinstance : bootBuiltins "isinstance" = some (.builtin "isinstance") := by decide +kernel
theorem bt_sum : bootBuiltins "sum" = some (.builtin "sum") := by decide +kernel
theorem bt_min : bootBuiltins "min" = some (.builtin "min") := by decide +kernel
theorem bt_max : bootBuiltins "max" = some (.builtin "max") := by decide +kernel
theorem bt_sorted : bootBuiltins "sorted" = some (.builtin "sorted") := by decide +kernel
theorem bt_divmod : bootBuiltins "divmod" = some (.builtin "divmod") := by decide +kernel
theorem bt_any : bootBuiltins "any" = some (.builtin "any") := by decide +kernel
theorem bt_ValueError : bootBuiltins "ValueError" = some (.type "ValueError") := by decide +kernel
theorem bt_all : bootBuiltins "all" = some (.builtin "all") := by decide +kernel

/-! ### sizes of ints: i lies within n bits -/
structure Sz (n : Nat) (i : Int) : Prop where
  lt : i.natAbs < 2 ^ n
theorem Sz.log {n : Nat} {i : Int} (h : Sz n i) : i.natAbs.log2 ≤ n := by
  by_cases h0 : i.natAbs = 0
  · rw [h0]; exact Nat.zero_le _
  · exact Nat.le_of_lt ((Nat.log2_lt h0).mpr h.lt)
theorem Sz.zero (n : Nat) : Sz n 0 := ⟨Nat.pow_pos (by decide)⟩
theorem Sz.mono {m n : Nat} {i : Int} (h : Sz m i) (l : m ≤ n) : Sz n i := ⟨Nat.lt_of_lt_of_le h.lt (Nat.pow_le_pow_right (by decide) l)⟩
theorem Sz.add {m n : Nat} {i j : Int} (a : Sz m i) (b : Sz n j) : Sz (m + n + 1) (i + j) := by
  refine ⟨Nat.lt_of_le_of_lt (Int.natAbs_add_le i j) ?_⟩
  have h1 := (a.mono (Nat.le_add_right m n)).lt
  have h2 := (b.mono (Nat.le_add_left n m)).lt
  rw [Nat.pow_succ]
  omega
theorem Sz.neg {n : Nat} {i : Int} (a : Sz n i) : Sz n (-i) := ⟨by rw [Int.natAbs_neg]; exact a.lt⟩
theorem Sz.sub {m n : Nat} {i j : Int} (a : Sz m i) (b : Sz n j) : Sz (m + n + 1) (i - j) := by
  rw [Int.sub_eq_add_neg]
  exact a.add b.neg
theorem Sz.mul {m n : Nat} {i j : Int} (a : Sz m i) (b : Sz n j) : Sz (m + n) (i * j) := by
  refine ⟨?_⟩
  rw [Int.natAbs_mul, Nat.pow_add]
  exact Nat.mul_lt_mul'' a.lt b.lt
theorem Sz.le {n : Nat} {i j : Int} (a : Sz n j) (h : i.natAbs ≤ j.natAbs) : Sz n i := ⟨Nat.lt_of_le_of_lt h a.lt⟩
theorem Sz.div {n : Nat} {i j : Int} (a : Sz n i) : Sz n (i / j) := a.le (Int.natAbs_ediv_le_natAbs i j)
theorem Sz.mod {n : Nat} {i j : Int} (b : Sz n j) (h : 0 < j) : Sz n (i % j) := b.le (by
  have h1 := Int.emod_nonneg i (b := j) (by omega)
  have h2 := Int.emod_lt_of_pos i h
  omega)
theorem Sz.nn {n : Nat} {i j : Int} (b : Sz n j) (h0 : 0 ≤ i) (h : i ≤ j) : Sz n i := b.le (by omega)
theorem Sz.absv {n : Nat} {i : Int} (a : Sz n i) : Sz n (if i < 0 then -i else i) := by
  by_cases h : i < 0
  · rw [if_pos h]; exact a.neg
  · rw [if_neg h]; exact a
theorem Sz.bits {z : Int} {n : Nat} (h : Builtin.Int.intBits z ≤ n) : Sz n z := by
  refine ⟨?_⟩
  unfold Builtin.Int.intBits at h
  by_cases h0 : z = 0
  · subst h0
    exact Nat.pos_of_ne_zero (by simp)
  · have h1 : ¬ z.natAbs = 0 := by omega
    have h2 : z.natAbs.log2 + 1 ≤ n := by
      split at h
      · rename_i e
        first
          | exact absurd (by simpa using e) h0
          | omega
      · exact h
    exact (Nat.log2_lt h1).mp (by omega)

/-! ### products and quotients of any size -/
/-- a product that fits -/
def CM (i j : Int) : Prop := i.natAbs.log2 + j.natAbs.log2 < 134000000
theorem CM.ok {i j : Int} (h : CM i j) : IntMulOk i j := by
  have b : ∀ x : Int, Builtin.Int.intBits x ≤ x.natAbs.log2 + 1 := fun x => by
    unfold Builtin.Int.intBits
    split <;> omega
  have h1 := b i
  have h2 := b j
  have h3 : i.natAbs.log2 + j.natAbs.log2 < 134000000 := h
  have e := bitsLine_eq
  intro z
  have z2 := (Bool.and_eq_true_iff.mp z).2
  unfold Builtin.Int.intTooBig at z2
  have z3 := of_decide_eq_true z2
  rw [e] at z3
  omega
theorem CM.of {m n : Nat} {i j : Int} (a : Sz m i) (b : Sz n j) (h : m + n < 134000000 := by decide) : CM i j := by
  have h1 := a.log
  have h2 := b.log
  unfold CM
  omega
/-- a positive divisor of less than 9000 bits -/
def CD (_ j : Int) : Prop := 0 < j ∧ j.natAbs.log2 < 9000
theorem CD.of {n : Nat} {i j : Int} (h : 0 < j) (b : Sz n j) (hn : n < 9000 := by decide) : CD i j := ⟨h, Nat.lt_of_le_of_lt b.log hn⟩
theorem CM.of2 {m n : Nat} {i j : Int} (a : Sz m i) (b : Sz n j) (h : m + n < 134000000) : CM i j := CM.of a b h
theorem CD.of2 {n : Nat} {i j : Int} (b : Sz n j) (h : 0 < j) (hn : n < 9000) : CD i j := CD.of h b hn
theorem log2_mono {m n : Nat} (h : m ≤ n) : m.log2 ≤ n.log2 := by
  by_cases h0 : m = 0
  · rw [h0]; exact Nat.zero_le _
  · exact (Nat.le_log2 (by omega)).mpr (Nat.le_trans (Nat.log2_self_le h0) h)
theorem CM.rest {t b : Int} (c : CD t b) : CM 2 (t - t / b * b) := by
  obtain ⟨c1, c2⟩ := c
  have e : t - t / b * b = t % b := by
    have := Int.mul_ediv_add_emod t b
    rw [Int.mul_comm b] at this
    omega
  have h1 := Int.emod_nonneg t (b := b) (by omega)
  have h2 := Int.emod_lt_of_pos t c1
  have h3 := log2_mono (m := (t % b).natAbs) (n := b.natAbs) (by omega)
  show Nat.log2 2 + _ < _
  have h4 : Nat.log2 2 = 1 := by decide +kernel
  rw [e]
  omega
section
variable {X : Cx}
theorem op_mulB : OpR X (binaryOp .Mult) (rI CM fun i j => .int (i * j)) := opI fun _ _ _ _ _ _ _ hc q => mul_int q hc.ok
theorem op_fdivB : OpR X (binaryOp .FloorDiv) (rI CD fun i j => .int (i / j)) := op_fdivW
end

/-! ### the script's cells -/
def cell (ns : List Int) (i : Nat) : Int := ns.getD i 0
def Bits (ns : List Int) : Prop := ∀ z ∈ ns, Builtin.Int.intBits z ≤ 1048576
theorem cell_sz {ns : List Int} (h : Bits ns) (i : Nat) : Sz 1048576 (cell ns i) := by
  unfold cell
  rw [List.getD_eq_getElem?_getD]
  cases e : ns[i]? with
  | none => exact Sz.zero _
  | some z => exact Sz.bits (h z (List.mem_of_getElem? e))

theorem atI_map_cell {ns : List Int} {j : Nat} (h : j < ns.length) : atI (ns.map V.int) ((j : Nat) : Int) = some (V.int (cell ns j)) := by
  refine atI_nat ?_
  rw [List.getElem?_map, List.getElem?_eq_getElem h]
  unfold cell
  rw [List.getD_eq_getElem?_getD, List.getElem?_eq_getElem h]
  rfl
/-- the answer of isinstance(x, int) and not isinstance(x, bool), by the kind of x -/
def wholeV : V → Option Bool
  | .int _ => some true
  | .bl _ => some false
  | .str _ => some false
  | .non => some false
  | _ => none

/-! ### heaps that grow -/
theorem same_new {H H' : Hp} {p : Addr} {o : HO} (s : Same H H') (h : H' p = none) : Same H (upd H' p o) := fun b u e => by
  rw [upd_ne (ne_of_none (s b u e) h)]
  exact s b u e
theorem same_tup {K : PySem.W.Frag} {H H' : Hp} {a : Addr} {xs : List V} (e : Same H H') (h : SqT K H a xs) : SqT K H' a xs := Evl.ex_t e h
theorem same_lst {K : PySem.W.Frag} {H H' : Hp} {a : Addr} {xs : List V} (e : Same H H') (h : SqL K H a xs) : SqL K H' a xs := Evl.ex_l e h
theorem t_of {K : PySem.W.Frag} {H : Hp} {a : Addr} {xs : List V} (h : H a = some (.tup xs)) : SqT K H a xs := Or.inl (Or.inl h)
theorem l_of {K : PySem.W.Frag} {H : Hp} {a : Addr} {xs : List V} (h : H a = some (.lst xs)) : SqL K H a xs := Or.inl (Or.inl h)
theorem lst_upd {K : PySem.W.Frag} {H : Hp} {a p : Addr} {o : HO} {xs : List V} (e : H p = none) (h : SqL K H a xs) : SqL K (upd H p o) a xs := same_lst (same_new (Same.refl H) e) h
theorem tup_upd {K : PySem.W.Frag} {H : Hp} {a p : Addr} {o : HO} {xs : List V} (e : H p = none) (h : SqT K H a xs) : SqT K (upd H p o) a xs := same_tup (same_new (Same.refl H) e) h
/-- a law's promise: a list of at most 63 ints of at most 2^20 bits each is handed in, True comes out -/
def sp_law (K : PySem.W.Frag) : Sp := fun vs H Q _ => ∃ (a : Addr) (ns : List Int), vs = [.ref a] ∧ SqL K H a (ns.map V.int) ∧ ns.length ≤ 63 ∧ Bits ns ∧ ∀ H', Q (.bl true) H'
theorem passX {X : Cx} : Passes (L2.CX X.prog X.w) X E0 := fun _ _ _ _ _ _ _ h => by
  obtain ⟨_, _, _, _, _, _, _, _, _, _, _, _, z⟩ := h
  exact z.elim
theorem passXS {X : Cx} (σ : L2.St) : PassesAt (L2.CX X.prog X.w) X σ ((fun _ => E0 : L2.St → XK) σ) := fun _ _ _ _ _ _ h => by
  obtain ⟨_, _, _, _, _, _, _, _, _, _, _, _, z⟩ := h
  exact z.elim
theorem walk {l : PySem.W.OpenLaw} {k : Nat} {q : Program} {loose : List Str} {XP : (Str → Option Value) → Heap → Prop} {YP : World → Heap → Prop} {d : DefRec} {K : Params → PySem.W.Frag} (hn : l.most = some 63) (hdf : d.params.defaults = [])
    (hr : Room k callerA) (hY : ∀ (w : World) (h : Heap), YP w h → (K w.params).In h)
    (F : ∀ (w : World) (mg : Str → Option Value) (fa : Addr) (h : Heap), (K w.params).In h → h.Ns mainGlobals mg → mg d.name = some (.ref fa) →
      ∃ fd : FuncData, (∀ (s : Shared) (u : Value), BindsTo s fd ⟨[u], []⟩ [("script", u)]) ∧ ∀ base : Heap, (K w.params).In base → base.Ns mainGlobals mg → FnOk l.prog w (K w.params) mg base (L2.CX l.prog w) k fa fd ["script"] (sp_law (K w.params))) :
    PySem.W.WalkO q loose XP YP l.row.toRowW d [] (fun f vs => PySem.call f vs) :=
  L2.walk_ofB (n := 63) (k := k) (x := "script") (CX := fun w => L2.CX l.prog w) (sp := fun w => sp_law (K w.params)) hn (by decide) hdf hr hY F (fun _ _ a ns hl hb _ hS => ⟨a, ns, rfl, hS, hl, hb, fun _ => rfl⟩) fun _ _ _ _ _ h => by
    obtain ⟨_, _, _, _, _, _, _, _, _, _, _, _, z⟩ := h
    exact z.elim
/-- a def without defaults, as the top leaves it -/
theorem fun_of {K : PySem.W.Frag} {x qual : Str} {pa : Arguments} {bd : List Stmt} {sc : Scope} {f : Addr} {oc : Value} {od an : Option Addr} {osl : Array (Option Value)} {kV doc pm cdv ct : Value}
    (l : K.lookup f = some ⟨oc, od, .func (PySem.W.fnOf x qual pa bd sc .none kV doc pm an cdv ct), osl⟩) (c : PySem.W.codeIn K cdv qual = true) (k : PySem.W.keepIn K (.ref f) = true) :
    FunD K x qual pa bd sc [] [] f (PySem.W.fnOf x qual pa bd sc .none kV doc pm an cdv ct) := ⟨⟨oc, od, .none, kV, doc, pm, an, cdv, ct, osl, rfl, l, c, .inl ⟨rfl, rfl⟩, .inl rfl⟩, k⟩
/-! ### items by their place -/
section
variable {K : PySem.W.Frag} {H : Hp} {p : Addr} {xs : List V} {i : Int} {v : V} {Q : VK}
theorem ixT_go (h : SqT K H p xs) (e : atI xs i = some v) (q : Q v H) : rIxT K (.ref p) (.int i) H Q := ⟨p, xs, i, v, rfl, rfl, h, e, q⟩
theorem ixL_go (h : SqL K H p xs) (e : atI xs i = some v) (q : Q v H) : rIxL K (.ref p) (.int i) H Q := ⟨p, xs, i, v, rfl, rfl, h, e, q⟩
theorem ixUT_go (h : SqT K H p xs) (e : atI xs i = some v) (q : Q v H) : rIx K (.ref p) (.int i) H Q := .inr (.inl (ixT_go h e q))
theorem ixUL_go (h : SqL K H p xs) (e : atI xs i = some v) (q : Q v H) : rIx K (.ref p) (.int i) H Q := .inl (ixL_go h e q)
end
/-! ### ways -/
theorem iteD {p A B : Prop} [Decidable p] (h1 : p → A) (h2 : ¬ p → B) : if decide p = true then A else B := by
  by_cases h : p
  · rw [decide_eq_true h]; exact iteT (h1 h)
  · rw [decide_eq_false h]; exact iteF (h2 h)
theorem iteDN {p A B : Prop} [Decidable p] (h1 : ¬ p → A) (h2 : p → B) : if (!decide p) = true then A else B := by
  by_cases h : p
  · rw [decide_eq_true h]; exact iteF (h2 h)
  · rw [decide_eq_false h]; exact iteT (h1 h)
theorem iteI {x y : Int} {A B : Prop} (h1 : x = y → A) (h2 : x ≠ y → B) : if decide (V.int x = V.int y) = true then A else B :=
  iteD (fun h => h1 (V.int.inj h)) fun h => h2 fun e => h (congrArg V.int e)
theorem iteIN {x y : Int} {A B : Prop} (h1 : x ≠ y → A) (h2 : x = y → B) : if (!decide (V.int x = V.int y)) = true then A else B :=
  iteDN (fun h => h1 fun e => h (congrArg V.int e)) fun h => h2 (V.int.inj h)
theorem iteS {x y : Str} {A B : Prop} (h1 : x = y → A) (h2 : x ≠ y → B) : if decide (V.str x = V.str y) = true then A else B :=
  iteD (fun h => h1 (V.str.inj h)) fun h => h2 fun e => h (congrArg V.str e)
theorem iteSN {x y : Str} {A B : Prop} (h1 : x ≠ y → A) (h2 : x = y → B) : if (!decide (V.str x = V.str y)) = true then A else B :=
  iteDN (fun h => h1 fun e => h (congrArg V.str e)) fun h => h2 (V.str.inj h)
theorem iteLen {xs : List V} {y : Int} {A B : Prop} (e : ((xs.length : Nat) : Int) = y) (h : A) : if decide (V.int ((xs.length : Nat) : Int) = V.int y) = true then A else B := by
  subst e
  rw [decide_eq_true rfl]
  exact iteT h
theorem iteLenN {xs : List V} {y : Int} {A B : Prop} (e : ((xs.length : Nat) : Int) = y) (h : B) : if (!decide (V.int ((xs.length : Nat) : Int) = V.int y)) = true then A else B := by
  subst e
  rw [decide_eq_true rfl]
  exact iteF h
theorem iteB {b : Bool} {A B : Prop} (h1 : b = true → A) (h2 : b = false → B) : if b = true then A else B := by
  cases b
  · exact iteF (h2 rfl)
  · exact iteT (h1 rfl)
theorem iteBN {b : Bool} {A B : Prop} (h1 : b = false → A) (h2 : b = true → B) : if (!b) = true then A else B := by
  cases b
  · exact iteT (h1 rfl)
  · exact iteF (h2 rfl)
theorem q_int {Q : VK} {x y : Int} {H : Hp} (q : Q (.int x) H) (e : x = y) : Q (.int y) H := e ▸ q
theorem q_bl {Q : VK} {x y : Bool} {H : Hp} (q : Q (.bl x) H) (e : x = y) : Q (.bl y) H := e ▸ q
/-- a statement whose ways meet: P holds behind each of them -/
def tCut (t : TS) : TS := fun D σ H => ∃ W : L2.St → Hp → Prop, t { D with nx := W } σ H ∧ ∀ σ' H', W σ' H' → D.nx σ' H'
theorem ps_cut {X : Cx} {st : Stmt} {t : TS} (h : PS X st t) : PS X st (tCut t) := by
  refine ⟨fun pins s σ H D I hw => ?_⟩
  obtain ⟨W, h1, h2⟩ := hw
  refine thn (h.run pins s σ H _ I h1) fun f s' q => ?_
  cases f with
  | next =>
    obtain ⟨σ', H', I', q'⟩ := q
    exact ⟨σ', H', I', h2 σ' H' q'⟩
  | brk => exact q
  | cont => exact q
  | ret u => exact q
/-! ### what the top has written -/
def relB : V → Value → Bool
  | .non, .none => true
  | .bl b, .bool c => b == c
  | .int i, .int j _ => i == j
  | .str x, .str y _ => x == y
  | .ref a, .ref b => a == b
  | .ty n, .type m => n == m
  | _, _ => false
theorem relB_ok : ∀ {v : V} {u : Value}, relB v u = true → RelV v u
  | .non, .none, _ => rfl
  | .bl b, .bool c, h => by
    have e : b = c := by simpa [relB] using h
    rw [e]; exact rfl
  | .int i, .int j t, h => by
    have e : i = j := by simpa [relB] using h
    rw [e]; exact ⟨t, rfl⟩
  | .str x, .str y t, h => by
    have e : x = y := by simpa [relB] using h
    rw [e]; exact ⟨t, rfl⟩
  | .ref a, .ref b, h => by
    have e : a = b := by simpa [relB] using h
    rw [e]; exact rfl
  | .ty n, .type m, h => by
    have e : n = m := by simpa [relB] using h
    rw [e]; exact rfl
def valsB : List V → List Value → Bool
  | [], [] => true
  | v :: vs, u :: us => relB v u && valsB vs us
  | _, _ => false
theorem valsB_ok : ∀ {vs : List V} {us : List Value}, valsB vs us = true → Vals vs us
  | [], [], _ => .nil
  | v :: vs, u :: us, h => by
    have h2 := Bool.and_eq_true_iff.mp h
    exact .cons (relB_ok h2.1) (valsB_ok h2.2)
  | [], _ :: _, h => by cases h
  | _ :: _, [], h => by cases h
theorem tup_of {K : PySem.W.Frag} {H : Hp} {a : Addr} {od : Option Addr} {its : Array Value} {n : Nat} {sl : Array (Option Value)} {xs : List V} (l : K.lookup a = some ⟨.type "tuple", od, .seq its n, sl⟩) (v : valsB xs its.toList = true) (h : xs.length ≤ 1000 := by decide) : SqT K H a xs := by
  have r := valsB_ok v
  refine .inr ⟨_, its, n, l, rfl, rfl, ?_, r⟩
  have e : its.size = xs.length := by rw [r.length]; simp
  rw [e, sizeLine_eq]
  omega
/-- a def with defaults -/
theorem fun_ofD {K : PySem.W.Frag} {x qual : Str} {pa : Arguments} {bd : List Stmt} {sc : Scope} {f t : Addr} {oc : Value} {od an odt : Option Addr} {osl slt : Array (Option Value)} {kV doc pm cdv ct : Value} {its : Array Value} {n : Nat} {dvs : List V}
    (l : K.lookup f = some ⟨oc, od, .func (PySem.W.fnOf x qual pa bd sc (.ref t) kV doc pm an cdv ct), osl⟩) (c : PySem.W.codeIn K cdv qual = true) (k : PySem.W.keepIn K (.ref f) = true)
    (lt : K.lookup t = some ⟨.type "tuple", odt, .seq its n, slt⟩) (v : valsB dvs its.toList = true) (hd : dvs ≠ [] := by intro z; cases z) :
    FunD K x qual pa bd sc dvs [] f (PySem.W.fnOf x qual pa bd sc (.ref t) kV doc pm an cdv ct) := ⟨⟨oc, od, _, kV, doc, pm, an, cdv, ct, osl, rfl, l, c, .inr ⟨hd, t, _, its.toList, n, rfl, lt, by simp, valsB_ok v⟩, .inl rfl⟩, k⟩
section
variable {X : Cx} {CX : CXT} {k : Nat} {f : Addr} {fd : FuncData} {ps : List Str} {sp : Sp} {E : L2.St → XK} {x : Str} {p pos : Pos} {e : Expr} {es : List Expr} {t : TA} {dvs : List V}
def tCallD (sp : Sp) (dvs : List V) (E : L2.St → XK) (t : TA) : TE := fun σ H Q => t σ H fun vs H1 => sp (vs ++ dvs) H1 Q (E σ)
/-- f(e, ..), the defaults dvs fill up -/
theorem pe_callSD (F : FnOk X.prog X.w X.K X.mg X.base CX k f fd ps sp) (hr : Room k X.A) (hg : Gl X x) (hm : X.mg x = some (.ref f)) (hk : PySem.W.keepIn X.K (.ref f) = true) (hb : ∃ ds, Vals dvs ds ∧ Binds X.K fd ps ds) (hx : ∀ σ, PassesAt CX X σ (E σ))
    (ha : PA X (e :: es) t) (hdb : (x == ("__debug__" : Str)) = false := by decide) (he : starEach (e :: es) X.env = (false, eval e X.env) :: starEach es X.env := by rfl) (hpl : (backTo pos (starEach es X.env)).any (·.1) = false := by rfl) :
    PE X (.Call (.Name x p) (e :: es) [] pos) (tCallD sp dvs E t) := by
  obtain ⟨ds, hd, hb⟩ := hb
  refine ⟨fun pins s σ H Q I h => ?_⟩
  refine wpAny_Call_Name_kw (ld_glob I hg hm ?_ hdb)
  refine PySem.W.callWith_K (h₀ := X.base) I.ok.mod.kin hk (thn (ha.run pos pins s σ H _ I h) fun us s1 hh => ?_) he hpl
  obtain ⟨vs, H1, I1, r, q⟩ := hh
  have r2 : Vals (vs ++ dvs) (us ++ ds) := r.append hd
  refine ⟨I1.kIn, ?_⟩
  show wpAny _ _ (call (.ref f) us) _ _ _
  refine wpAny_call (codeAny_mono (F.run X.A X.stack s1 H1 ⟨us, []⟩ (us ++ ds) (vs ++ dvs) Q (E σ) hr I1.env0 (hb s1 us I1.kIn (r2.length.symm.trans (F.len _ _ _ _ q))) r2 q) fun rr s' hq => ?_)
  cases rr with
  | error e => exact hx σ pins H1 s1 e s' I1 hq
  | ok fl =>
    cases fl with
    | ret u => exact I1.after hq
    | next => exact False.elim hq
    | brk => exact False.elim hq
    | cont => exact False.elim hq
end
/-- one that stays behind a wall: nothing steps into it -/
structure Wall (p : Prop) : Prop where
  get : True → p
theorem wall {p : Prop} (h : p) : Wall p := ⟨fun _ => h⟩
theorem Wall.in_ {p q : Prop} (h : p → q) : Wall p → q := fun k => h (k.get trivial)
/-! ### == of flat lists and tuples -/
def pd : V → PyData
  | .bl b => .bool b
  | .int i => .int i
  | .str x => .str x
  | _ => .none
def okS (x : Str) : Bool := x.cps.toList.all fun c => Nat.blt c 0x110000
theorem okS_ok {x : Str} (h : okS x = true) : PyData.strOk x = true := by
  unfold PyData.strOk
  unfold okS at h
  rw [Array.all_toList] at h
  rw [← h]
  congr 1
  funext c
  show decide (c < 1114112) = Nat.blt c 1114112
  rw [Bool.eq_iff_iff, decide_eq_true_iff, Nat.blt_eq]
def flatS : V → Bool
  | .non => true
  | .bl _ => true
  | .int _ => true
  | .str x => okS x
  | _ => false
def eqL : List V → List V → Bool
  | [], [] => true
  | x :: xs, y :: ys => eqV x y && eqL xs ys
  | _, _ => false
theorem eqL_self : ∀ {xs : List V}, xs.all flatS = true → eqL xs xs = true
  | [], _ => rfl
  | x :: xs, h => by
    have h2 := Bool.and_eq_true_iff.mp (List.all_cons .. ▸ h)
    refine Bool.and_eq_true_iff.mpr ⟨?_, eqL_self h2.2⟩
    cases x <;> first | (exact absurd (show false = true from h2.1) Bool.false_ne_true) | simp [eqV]
theorem dp_pd {K : PySem.W.Frag} {H : Hp} : ∀ {x : V}, flatS x = true → Dp K H x (pd x)
  | .non, _ => .non
  | .bl b, _ => .bl b
  | .int i, _ => .int i
  | .str x, _ => .str x
  | .byt _, h => absurd (show false = true from h) Bool.false_ne_true
  | .flt _, h => absurd (show false = true from h) Bool.false_ne_true
  | .ref _, h => absurd (show false = true from h) Bool.false_ne_true
  | .ty _, h => absurd (show false = true from h) Bool.false_ne_true
theorem dpAll_pd {K : PySem.W.Frag} {H : Hp} : ∀ {xs : List V}, xs.all flatS = true → DpAll K H xs (xs.map pd)
  | [], _ => .nil
  | x :: xs, h => by
    have h2 := Bool.and_eq_true_iff.mp (List.all_cons .. ▸ h)
    exact .cons (dp_pd h2.1) (dpAll_pd h2.2)
theorem lay_pd : ∀ {x : V}, flatS x = true → (pd x).canLay0 = true ∧ (pd x).depth = 0 := fun {x} h => by
  cases x <;> first | (exact absurd (show false = true from h) Bool.false_ne_true) | (refine ⟨?_, ?_⟩ <;> simp only [pd, PyData.canLay0, PyData.depth]) 
  all_goals exact okS_ok h
theorem layAll_pd : ∀ {xs : List V}, xs.all flatS = true → PyData.canLayAll0 (xs.map pd) = true ∧ PyData.depthAll (xs.map pd) = 0
  | [], _ => ⟨by simp only [List.map, PyData.canLayAll0], by simp only [List.map, PyData.depthAll]⟩
  | x :: xs, h => by
    have h2 := Bool.and_eq_true_iff.mp (List.all_cons .. ▸ h)
    have a := lay_pd h2.1
    have b := layAll_pd h2.2
    simp only [List.map, PyData.canLayAll0, PyData.depthAll, a.1, a.2, b.1, b.2]
    decide
theorem shaped_pd {xs : List V} (h : xs.all flatS = true) : SeqAt.shaped (.tuple (xs.map pd)) = true ∧ SeqAt.shaped (.list (xs.map pd)) = true := by
  have a := layAll_pd h
  unfold SeqAt.shaped
  simp only [PyData.canLay0, PyData.depth, a.1, a.2]
  decide
theorem eqv_pd : ∀ {x y : V}, flatS x = true → flatS y = true → PyData.eqv (pd x) (pd y) = eqV x y := fun {x y} hx hy => by
  cases x <;> first | (exact absurd (show false = true from hx) Bool.false_ne_true) | skip
  all_goals cases y <;> first | (exact absurd (show false = true from hy) Bool.false_ne_true) | (simp only [pd, PyData.eqv, eqV])
theorem eqvAll_pd : ∀ {xs ys : List V}, xs.all flatS = true → ys.all flatS = true → PyData.eqvAll (xs.map pd) (ys.map pd) = eqL xs ys
  | [], [], _, _ => by simp only [List.map, PyData.eqvAll, eqL]
  | [], _ :: _, _, _ => by simp only [List.map, PyData.eqvAll, eqL]
  | _ :: _, [], _, _ => by simp only [List.map, PyData.eqvAll, eqL]
  | x :: xs, y :: ys, h, k => by
    have h2 := Bool.and_eq_true_iff.mp (List.all_cons .. ▸ h)
    have k2 := Bool.and_eq_true_iff.mp (List.all_cons .. ▸ k)
    simp only [List.map, PyData.eqvAll, eqL, eqv_pd h2.1 k2.1, eqvAll_pd h2.2 k2.2]
section
variable {K : PySem.W.Frag} {H : Hp} {a b : Addr} {xs ys : List V} {Q : VK}
theorem eqD_T (h1 : SqT K H a xs) (h2 : SqT K H b ys) (f1 : xs.all flatS = true) (f2 : ys.all flatS = true) (q : Q (.bl (eqL xs ys)) H) : rEqD K (.ref a) (.ref b) H Q := by
  refine ⟨_, _, .tup h1 (dpAll_pd f1), .tup h2 (dpAll_pd f2), (shaped_pd f1).1, (shaped_pd f2).1, ?_⟩
  simp only [PyData.eqv, eqvAll_pd f1 f2]
  exact q
theorem neD_T (h1 : SqT K H a xs) (h2 : SqT K H b ys) (f1 : xs.all flatS = true) (f2 : ys.all flatS = true) (q : Q (.bl (!eqL xs ys)) H) : rNeD K (.ref a) (.ref b) H Q := by
  refine ⟨_, _, .tup h1 (dpAll_pd f1), .tup h2 (dpAll_pd f2), (shaped_pd f1).1, (shaped_pd f2).1, ?_⟩
  simp only [PyData.eqv, eqvAll_pd f1 f2]
  exact q
theorem eqD_L (h1 : SqL K H a xs) (h2 : SqL K H b ys) (f1 : xs.all flatS = true) (f2 : ys.all flatS = true) (q : Q (.bl (eqL xs ys)) H) : rEqD K (.ref a) (.ref b) H Q := by
  refine ⟨_, _, .lst h1 (dpAll_pd f1), .lst h2 (dpAll_pd f2), (shaped_pd f1).2, (shaped_pd f2).2, ?_⟩
  simp only [PyData.eqv, eqvAll_pd f1 f2]
  exact q
theorem neD_L (h1 : SqL K H a xs) (h2 : SqL K H b ys) (f1 : xs.all flatS = true) (f2 : ys.all flatS = true) (q : Q (.bl (!eqL xs ys)) H) : rNeD K (.ref a) (.ref b) H Q := by
  refine ⟨_, _, .lst h1 (dpAll_pd f1), .lst h2 (dpAll_pd f2), (shaped_pd f1).2, (shaped_pd f2).2, ?_⟩
  simp only [PyData.eqv, eqvAll_pd f1 f2]
  exact q
/-- the same items: equal -/
theorem eqD_TT (h1 : SqT K H a xs) (h2 : SqT K H b ys) (e : xs = ys) (f : xs.all flatS = true) (q : Q (.bl true) H) : rEqD K (.ref a) (.ref b) H Q := by
  subst e
  exact eqD_T h1 h2 f f ((eqL_self f).symm ▸ q)
theorem neD_TT (h1 : SqT K H a xs) (h2 : SqT K H b ys) (e : xs = ys) (f : xs.all flatS = true) (q : Q (.bl false) H) : rNeD K (.ref a) (.ref b) H Q := by
  subst e
  exact neD_T h1 h2 f f (by rw [eqL_self f]; exact q)
theorem eqD_LL (h1 : SqL K H a xs) (h2 : SqL K H b ys) (e : xs = ys) (f : xs.all flatS = true) (q : Q (.bl true) H) : rEqD K (.ref a) (.ref b) H Q := by
  subst e
  exact eqD_L h1 h2 f f ((eqL_self f).symm ▸ q)
theorem neD_LL (h1 : SqL K H a xs) (h2 : SqL K H b ys) (e : xs = ys) (f : xs.all flatS = true) (q : Q (.bl false) H) : rNeD K (.ref a) (.ref b) H Q := by
  subst e
  exact neD_L h1 h2 f f (by rw [eqL_self f]; exact q)
end
/-! ### isinstance -/
theorem tyx_t {K : PySem.W.Frag} {H : Hp} {a : Addr} {xs : List V} (h : SqT K H a xs) : TyX K H (.ref a) (.type "tuple") := by
  rcases h with (h | ⟨o, h⟩) | ⟨o, its, n, h1, h2, _⟩
  · exact .base (.tup h)
  · exact .fTuple h
  · exact .kTuple h1 h2
theorem tyx_l {K : PySem.W.Frag} {H : Hp} {a : Addr} {xs : List V} (h : SqL K H a xs) : TyX K H (.ref a) (.type "list") := by
  rcases h with (h | ⟨o, h⟩) | ⟨o, its, n, h1, h2, _⟩
  · exact .base (.lst h)
  · exact .base (.frz h)
  · exact .kList h1 h2
@[irreducible] def rIs (K : PySem.W.Frag) : List V → Hp → VK → Prop := fun xs H Q => rIsi K xs H Q
theorem call_is {X : Cx} : CallR X (.builtin "isinstance") (rIs X.K) := fun pins s σ H xs us Q I r h => call_isi pins s σ H xs us Q I r (by unfold rIs at h; exact h)
theorem isi_go {K : PySem.W.Frag} {H : Hp} {x : V} {a b : String} {r : Bool} {Q : VK} (h : TyX K H x (.type a)) (k : kitB a b = some r) (q : Q (.bl r) H) : rIs K [x, .ty b] H Q := by
  unfold rIs
  exact ⟨_, _, _, _, r, rfl, .ty _, h, kit_ty k, q⟩
theorem not_pos {b : Bool} (h : b = false) : (!b) = true := by rw [h]; rfl
def any1 : List V → Prop := fun _ => True
/-! ### len -/
@[irreducible] def rLn (K : PySem.W.Frag) : List V → Hp → VK → Prop := fun xs H Q => ∃ p ys, xs = [.ref p] ∧ (SqL K H p ys ∨ SqT K H p ys) ∧ Q (.int ys.length) H
theorem call_ln {X : Cx} : CallR X (.builtin "len") (rLn X.K) := fun pins s σ H xs us Q I r h => call_len_seq pins s σ H xs us Q I r (by unfold rLn at h; exact h)
section
variable {K : PySem.W.Frag} {H : Hp} {p : Addr} {ys : List V} {Q : VK}
theorem ln_t (h : SqT K H p ys) (q : Q (.int ys.length) H) : rLn K [.ref p] H Q := by
  unfold rLn
  exact ⟨_, _, rfl, .inr h, q⟩
theorem ln_l (h : SqL K H p ys) (q : Q (.int ys.length) H) : rLn K [.ref p] H Q := by
  unfold rLn
  exact ⟨_, _, rfl, .inl h, q⟩
end
theorem same_set {H H' : Hp} {p : Addr} {o : HO} (s : Same H H') (h : H p = none) : Same H (upd H' p o) := fun b u e => by
  have hb : b ≠ p := fun z => by
    rw [z, h] at e
    cases e
  rw [upd_ne hb]
  exact s b u e
theorem map_len {α : Type} {f : α → V} {xs : List α} : (((xs.map f).length : Nat) : Int) = ((xs.length : Nat) : Int) := by rw [List.length_map]
theorem range_snoc {f : Nat → Int} {i : Nat} {y : Int} (e : f i = y) : ((List.range i).map f).map V.int ++ [V.int y] = ((List.range (i + 1)).map f).map V.int := by
  subst e
  rw [List.range_succ, List.map_append, List.map_append]
  rfl
theorem atI_map {ns : List Int} {j : Nat} (h : j < ns.length) : atI (ns.map V.int) (0 + ((j : Nat) : Int)) = some (V.int (ns.getD j 0)) := by
  rw [Int.zero_add]
  exact atI_map_cell h
/-! ### methods of lists -/
@[irreducible] def rApp : V → List V → Hp → VK → Prop := fun x vs H Q => rAppend x vs H Q
theorem mt_app {X : Cx} : MtM X "list.append" rApp := fun pins s σ H x vs v us Q I rx rv h => mt_append pins s σ H x vs v us Q I rx rv (by unfold rApp at h; exact h)
theorem app_go {H : Hp} {l : Addr} {xs : List V} {y : V} {Q : VK} (e : H l = some (.lst xs)) (hl : xs.length < sizeLine) (q : Q .non (upd H l (.lst (xs ++ [y])))) : rApp (.ref l) [y] H Q := by
  unfold rApp
  exact ⟨l, xs, y, rfl, rfl, e, hl, q⟩
theorem ty_l {K : PySem.W.Frag} {H : Hp} {p : Addr} {xs : List V} (h : SqL K H p xs) : tyV K "list" (.ref p) H := .inl ⟨rfl, _, h⟩
theorem ty_s {K : PySem.W.Frag} {H : Hp} {z : Str} : tyV K "str" (.str z) H := rfl
theorem ty_d {K : PySem.W.Frag} {H : Hp} {p : Addr} {kvs : List (Key × V)} (h : H p = some (.dK kvs)) : tyV K "dict" (.ref p) H := .inr (.inr (.inl ⟨rfl, .inl ⟨_, h⟩⟩))
/-! ### a call that writes all parameters, the last ones by name -/
section
variable {K : PySem.W.Frag} {x qual : Str} {params : Arguments} {body : List Stmt} {scope : Scope} {dvs : List V} {kws : List (Str × V)} {f : Addr} {fd : FuncData} {ps : List Str}
theorem kb_all (F : FunD K x qual params body scope dvs kws f fd) (n : Nat) (ks : List Str) (hd : dvs ≠ [])
    (h : ∀ (T : Addr) (kV doc pm : Value) (an : Option Addr) (cdv ct : Value) (us its ws : List Value), us.length = n → its.length = dvs.length → ws.length = ks.length →
      ∃ k, bindArgs (PySem.W.fnOf x qual params body scope (.ref T) kV doc pm an cdv ct) ⟨us, ks.zip ws⟩ = seqItems? (.ref T) >>= k ∧ k (some its.toArray) = pure (ps.zip (us ++ ws))) :
    KBn K fd ps n ks (fun us ws => us ++ ws) (fun vs zs => vs ++ zs) := by
  obtain ⟨oc, od, dV, kV, doc, pm, an, cdv, ct, osl, rfl, lk, hcd, hD, hK⟩ := F.ex
  rcases hD with ⟨e, _⟩ | ⟨_, t, o, its, m, rfl, lT, oT, rT⟩
  · exact absurd e hd
  · refine ⟨fun s us ws X l1 l2 => ?_, fun r1 r2 => r1.append r2⟩
    obtain ⟨k, e1, e2⟩ := h t kV doc pm an cdv ct us its ws l1 rT.length.symm l2
    refine BindsTo.of_looks fun M => ?_
    rw [e1]
    exact looks_items X lT oT (.of_pure e2)
end
/-! ### a, b, c = pair -/
theorem gTup_go {K : PySem.W.Frag} {n : Nat} {t : TGs} {a : Addr} {xs : List V} {σ : L2.St} {H : Hp} {Q : L2.St → Hp → Prop} (h : SqT K H a xs) (l : xs.length = n) (q : t xs σ H Q) : gTup K n t (.ref a) σ H Q := ⟨a, xs, rfl, h, l, q⟩
theorem gCons_go {t : TG} {u : TGs} {v : V} {r : List V} {σ : L2.St} {H : Hp} {Q : L2.St → Hp → Prop} (q : t v σ H fun σ' H' => u r σ' H' Q) : gCons t u (v :: r) σ H Q := ⟨v, r, rfl, q⟩
theorem gNil_go {σ : L2.St} {H : Hp} {Q : L2.St → Hp → Prop} (q : Q σ H) : gNil [] σ H Q := ⟨rfl, q⟩
/-! ### min and max of two -/
@[irreducible] def rMn : List V → Hp → VK → Prop := fun xs H Q => ∃ i j, xs = [.int i, .int j] ∧ Q (.int (if j < i then j else i)) H
@[irreducible] def rMx : List V → Hp → VK → Prop := fun xs H Q => ∃ i j, xs = [.int i, .int j] ∧ Q (.int (if i < j then j else i)) H
theorem call_mn {X : Cx} (hc : X.calm = true) : CallR X (.builtin "min") rMn := fun pins s σ H xs us Q I r h => call_min2 hc pins s σ H xs us Q I r (by unfold rMn at h; exact h)
theorem call_mx {X : Cx} (hc : X.calm = true) : CallR X (.builtin "max") rMx := fun pins s σ H xs us Q I r h => call_max2 hc pins s σ H xs us Q I r (by unfold rMx at h; exact h)
theorem mn_go {i j : Int} {H : Hp} {Q : VK} (q : Q (.int (if j < i then j else i)) H) : rMn [.int i, .int j] H Q := by
  unfold rMn
  exact ⟨i, j, rfl, q⟩
theorem mx_go {i j : Int} {H : Hp} {Q : VK} (q : Q (.int (if i < j then j else i)) H) : rMx [.int i, .int j] H Q := by
  unfold rMx
  exact ⟨i, j, rfl, q⟩
theorem atI_ex (xs : List Int) {i : Int} (h0 : 0 ≤ i) (h1 : i < (xs.length : Nat)) : ∃ z, z ∈ xs ∧ atI (xs.map V.int) i = some (V.int z) := by
  obtain ⟨n, rfl⟩ : ∃ n : Nat, i = n := ⟨i.toNat, by omega⟩
  have hn : n < xs.length := by omega
  refine ⟨xs[n], List.getElem_mem hn, ?_⟩
  refine atI_nat ?_
  rw [List.getElem?_map, List.getElem?_eq_getElem hn]
  rfl
/-! ### x in xs, flat -/
@[irreducible] def rInS (K : PySem.W.Frag) (neg : Bool) : R2 := fun x y H Q => rIn K neg x y H Q
theorem op_inS {X : Cx} : OpR X (compareOp .In) (rInS X.K false) := fun pins s σ H x y v u Q I rx ry h => op_in_seq pins s σ H x y v u Q I rx ry (by unfold rInS at h; exact h)
theorem op_notInS {X : Cx} : OpR X (compareOp .NotIn) (rInS X.K true) := fun pins s σ H x y v u Q I rx ry h => op_notIn_seq pins s σ H x y v u Q I rx ry (by unfold rInS at h; exact h)
section
variable {K : PySem.W.Frag} {H : Hp} {p : Addr} {x : V} {xs : List V} {Q : VK}
theorem inT_go (h : SqT K H p xs) (fx : flatV x = true) (fs : xs.all flatV = true) (q : Q (.bl (inV x xs)) H) : rInS K false x (.ref p) H Q := by
  unfold rInS
  exact ⟨p, xs, rfl, .inr h, fx, fs, q⟩
theorem inL_go (h : SqL K H p xs) (fx : flatV x = true) (fs : xs.all flatV = true) (q : Q (.bl (inV x xs)) H) : rInS K false x (.ref p) H Q := by
  unfold rInS
  exact ⟨p, xs, rfl, .inl h, fx, fs, q⟩
theorem niT_go (h : SqT K H p xs) (fx : flatV x = true) (fs : xs.all flatV = true) (q : Q (.bl (!inV x xs)) H) : rInS K true x (.ref p) H Q := by
  unfold rInS
  exact ⟨p, xs, rfl, .inr h, fx, fs, q⟩
theorem niL_go (h : SqL K H p xs) (fx : flatV x = true) (fs : xs.all flatV = true) (q : Q (.bl (!inV x xs)) H) : rInS K true x (.ref p) H Q := by
  unfold rInS
  exact ⟨p, xs, rfl, .inl h, fx, fs, q⟩
end
/-! ### == of two pairs (text, tuple) -/
theorem eqD_nest {K : PySem.W.Frag} {H : Hp} {a b p q : Addr} {s : Str} {xs : List V} {Q : VK} (h1 : SqT K H a [.str s, .ref p]) (h2 : SqT K H b [.str s, .ref q]) (hp : SqT K H p xs) (hq : SqT K H q xs) (hs : okS s = true) (f : xs.all flatS = true) (k : Q (.bl true) H) : rEqD K (.ref a) (.ref b) H Q := by
  have e := layAll_pd f
  have sh : SeqAt.shaped (.tuple [.str s, .tuple (xs.map pd)]) = true := by
    unfold SeqAt.shaped
    simp only [PyData.canLay0, PyData.canLayAll0, PyData.depth, PyData.depthAll, e.1, e.2, okS_ok hs]
    decide
  refine ⟨_, _, .tup h1 (.cons (.str s) (.cons (.tup hp (dpAll_pd f)) .nil)), .tup h2 (.cons (.str s) (.cons (.tup hq (dpAll_pd f)) .nil)), sh, sh, ?_⟩
  rw [SeqAt.eqv_refl _ (SeqAt.canLay_of_shaped sh)]
  exact k
/-! ### xs[i] = v -/
@[irreducible] def rSetLi : V → V → V → Hp → (Hp → Prop) → Prop := fun o i v H Q => rSetL o i v H Q
theorem set_li {X : Cx} : PSet X rSetLi := fun pins s σ H o i v ov iv u Q I ro ri rv h => set_list pins s σ H o i v ov iv u Q I ro ri rv (by unfold rSetLi at h; exact h)
theorem setL_go {H : Hp} {p : Addr} {xs : List V} {k : Int} {j : Nat} {v : V} {Q : Hp → Prop} (h : H p = some (.lst xs)) (e : ixN xs.length k = some j) (q : Q (upd H p (.lst (xs.set j v)))) : rSetLi (.ref p) (.int k) v H Q := by
  unfold rSetLi
  exact ⟨p, xs, k, j, rfl, rfl, h, e, q⟩
/-! ### slices -/
section
variable {K : PySem.W.Frag} {H : Hp} {p : Addr} {xs : List V} {lo hi : Option Int} {Q : VK}
theorem slL_go (h : SqL K H p xs) (q : ∀ r, H r = none → Q (.ref r) (upd H r (.lst (cutV xs lo hi)))) : rSlL K (.ref p) lo hi H Q := ⟨p, xs, rfl, h, q⟩
end
/-! ### comprehensions over a list -/
theorem upd_upd {H : Hp} {a : Addr} {o o' : HO} : upd (upd H a o) a o' = upd H a o' := by
  funext b
  by_cases e : b = a
  · subst e
    rw [upd_same, upd_same]
  · rw [upd_ne e, upd_ne e, upd_ne e]
theorem hp_upd {H : Hp} {a p : Addr} {o o' : HO} (e : H p = none) (h : H a = some o) : upd H p o' a = some o := (upd_ne (ne_of_none h e)).trans h
section
variable {K : PySem.W.Frag} {a D : Addr} {g : TG} {tt : TT} {te : TE} {vs : List Nat} {σ : L2.St} {H1 : Hp} {Qd : Hp → Prop}
/-- [x for x in ns if p x] -/
theorem lc_fil {ns : List Int} (p : Int → Bool) (hD : H1 D = none) (hl : SqL K H1 a (ns.map V.int)) (hn : ns.length < sizeLine)
    (hs : ∀ z H (N : Hp → Prop) acc, H D = some (.lst acc) → acc.length < sizeLine → (p z = true → N (upd H D (.lst (acc ++ [.int z])))) → (p z = false → N H) →
      g (.int z) (wipe σ vs) H fun σ2 H2 => wipe σ2 vs = wipe σ vs ∧ tt σ2 H2 fun b H3 => if b = true then te σ2 H3 fun y H4 => ∃ acc, H4 D = some (.lst acc) ∧ acc.length < sizeLine ∧ N (upd H4 D (.lst (acc ++ [y]))) else N H3)
    (hd : Qd (upd H1 D (.lst ((ns.filter p).map V.int)))) :
    ∃ W : Nat → Nat → Hp → Prop, (∃ m, W 0 m (upd H1 D (.lst []))) ∧ ∀ i m H, W i m H →
      ((Itl K a).stop i H ∧ Qd H) ∨ ((Itl K a).go i H ∧ ∃ Nx : Hp → Prop, (∀ H', Nx H' → ∃ m', m' < m ∧ W (i + 1) m' H') ∧ ∀ x H', (Itl K a).yld i H x H' → g x (wipe σ vs) H' fun σ2 H2 => wipe σ2 vs = wipe σ vs ∧ tt σ2 H2 fun b H3 =>
        if b = true then te σ2 H3 fun y H4 => ∃ acc, H4 D = some (.lst acc) ∧ acc.length < sizeLine ∧ Nx (upd H4 D (.lst (acc ++ [y]))) else Nx H3) := by
  refine lc_list (xs := ns.map V.int) (fun i H => H = upd H1 D (.lst (((ns.take i).filter p).map V.int))) rfl (fun i H _ e => e ▸ lst_upd hD hl) ?_ ?_
  · rintro i x H hx rfl
    rw [List.getElem?_map] at hx
    cases hz : ns[i]? with
    | none => rw [hz] at hx; cases hx
    | some z =>
      rw [hz] at hx
      cases hx
      have ht : ns.take (i + 1) = ns.take i ++ [z] := by rw [List.take_add_one, hz]; rfl
      refine hs z _ _ _ upd_same ?_ (fun c => ?_) (fun c => ?_)
      · rw [List.length_map]
        refine Nat.lt_of_le_of_lt (List.length_filter_le _ _) (Nat.lt_of_le_of_lt ?_ hn)
        rw [List.length_take]
        exact Nat.min_le_right _ _
      · rw [ht, List.filter_append, List.map_append, upd_upd]
        simp [c]
      · rw [ht, List.filter_append]
        simp [c]
  · rintro H rfl
    rw [List.length_map, List.take_length]
    exact hd
/-- [f x for x in xs] -/
theorem lc_mp {xs : List V} (f : V → V) (hD : H1 D = none) (hl : SqL K H1 a xs) (hn : xs.length < sizeLine)
    (hs : ∀ (i : Nat) (x : V) (H : Hp) (N : Hp → Prop) (acc : List V), xs[i]? = some x → Same H1 H → H D = some (.lst acc) → acc.length < sizeLine → (∀ H', Same H1 H' → H' D = some (.lst (acc ++ [f x])) → N H') →
      g x (wipe σ vs) H fun σ2 H2 => wipe σ2 vs = wipe σ vs ∧ tt σ2 H2 fun b H3 => if b = true then te σ2 H3 fun y H4 => ∃ acc, H4 D = some (.lst acc) ∧ acc.length < sizeLine ∧ N (upd H4 D (.lst (acc ++ [y]))) else N H3)
    (hd : ∀ H', Same H1 H' → H' D = some (.lst (xs.map f)) → Qd H') :
    ∃ W : Nat → Nat → Hp → Prop, (∃ m, W 0 m (upd H1 D (.lst []))) ∧ ∀ i m H, W i m H →
      ((Itl K a).stop i H ∧ Qd H) ∨ ((Itl K a).go i H ∧ ∃ Nx : Hp → Prop, (∀ H', Nx H' → ∃ m', m' < m ∧ W (i + 1) m' H') ∧ ∀ x H', (Itl K a).yld i H x H' → g x (wipe σ vs) H' fun σ2 H2 => wipe σ2 vs = wipe σ vs ∧ tt σ2 H2 fun b H3 =>
        if b = true then te σ2 H3 fun y H4 => ∃ acc, H4 D = some (.lst acc) ∧ acc.length < sizeLine ∧ Nx (upd H4 D (.lst (acc ++ [y]))) else Nx H3) := by
  refine lc_list (xs := xs) (fun i H => Same H1 H ∧ H D = some (.lst ((xs.take i).map f))) ⟨same_new (Same.refl _) hD, upd_same⟩ (fun i H _ e => same_lst e.1 hl) ?_ ?_
  · rintro i x H hx ⟨s, e⟩
    have ht : xs.take (i + 1) = xs.take i ++ [x] := by rw [List.take_add_one, hx]; rfl
    refine hs i x _ _ _ hx s e ?_ fun H' s' e' => ?_
    · rw [List.length_map, List.length_take]
      exact Nat.lt_of_le_of_lt (Nat.min_le_right _ _) hn
    · refine ⟨s', ?_⟩
      rw [ht, List.map_append]
      exact e'
  · rintro H ⟨s, e⟩
    rw [List.take_length] at e
    exact hd H s e
end
/-! ### comprehensions over a range -/
section
variable {D : Addr} {g : TG} {tt : TT} {te : TE} {vs : List Nat} {σ : L2.St} {H1 : Hp} {Qd : Hp → Prop}
theorem lc_rgm {n : Nat} (f : Nat → V) (hD : H1 D = none) (hn : n < sizeLine)
    (hs : ∀ (i : Nat) (H : Hp) (N : Hp → Prop) (acc : List V), i < n → Same H1 H → H D = some (.lst acc) → acc.length < sizeLine → (∀ H', Same H1 H' → H' D = some (.lst (acc ++ [f i])) → N H') →
      g (.int (0 + (i : Nat))) (wipe σ vs) H fun σ2 H2 => wipe σ2 vs = wipe σ vs ∧ tt σ2 H2 fun b H3 => if b = true then te σ2 H3 fun y H4 => ∃ acc, H4 D = some (.lst acc) ∧ acc.length < sizeLine ∧ N (upd H4 D (.lst (acc ++ [y]))) else N H3)
    (hd : ∀ H', Same H1 H' → H' D = some (.lst ((List.range n).map f)) → Qd H') :
    ∃ W : Nat → Nat → Hp → Prop, (∃ m, W 0 m (upd H1 D (.lst []))) ∧ ∀ i m H, W i m H →
      ((Itr 0 n).stop i H ∧ Qd H) ∨ ((Itr 0 n).go i H ∧ ∃ Nx : Hp → Prop, (∀ H', Nx H' → ∃ m', m' < m ∧ W (i + 1) m' H') ∧ ∀ x H', (Itr 0 n).yld i H x H' → g x (wipe σ vs) H' fun σ2 H2 => wipe σ2 vs = wipe σ vs ∧ tt σ2 H2 fun b H3 =>
        if b = true then te σ2 H3 fun y H4 => ∃ acc, H4 D = some (.lst acc) ∧ acc.length < sizeLine ∧ Nx (upd H4 D (.lst (acc ++ [y]))) else Nx H3) := by
  refine lc_range (fun i H => Same H1 H ∧ H D = some (.lst ((List.range i).map f))) ⟨same_new (Same.refl _) hD, upd_same⟩ ?_ fun H e => hd H e.1 e.2
  rintro i H hi ⟨s, e⟩
  refine hs i H _ _ hi s e ?_ fun H' s' e' => ⟨s', ?_⟩
  · rw [List.length_map, List.length_range]
    exact Nat.lt_trans hi hn
  · rw [List.range_succ, List.map_append]
    exact e'
end
theorem range_rep {n : Nat} {v : Int} : (List.range n).map (fun _ => V.int v) = (List.replicate n v).map V.int := by
  rw [List.map_const', List.length_range, List.map_replicate]
/-! ### max of a list -/
@[irreducible] def rMxl (K : PySem.W.Frag) : List V → Hp → VK → Prop := fun vs H Q => rMax K vs H Q
theorem call_mxl {X : Cx} (hc : X.calm = true) : CallR X (.builtin "max") (rMxl X.K) := fun pins s σ H xs us Q I r h => cr_max hc pins s σ H xs us Q I r (by unfold rMxl at h; exact h)
theorem mxl_go {K : PySem.W.Frag} {H : Hp} {p : Addr} {ns : List Int} {Q : VK} (h : SqL K H p (ns.map V.int)) (h0 : 0 < ns.length) (q : ∀ m, m ∈ ns → (∀ y, y ∈ ns → y ≤ m) → Q (.int m) H) : rMxl K [.ref p] H Q := by
  unfold rMxl
  exact ⟨p, ns, rfl, h, h0, q⟩
/-! ### x is True -/
@[irreducible] def rIsB : R2 := fun x y H Q => ∃ b c, x = .bl b ∧ y = .bl c ∧ Q (.bl (b == c)) H
@[irreducible] def rNotB : R2 := fun x y H Q => ∃ b c, x = .bl b ∧ y = .bl c ∧ Q (.bl (!(b == c))) H
section
variable {X : Cx} {b c : Bool} {H : Hp} {Q : VK}
theorem op_isB : OpR X (compareOp .Is) rIsB := fun pins s σ H x y v u Q I rx ry h => by
  unfold rIsB at h
  obtain ⟨b, c, rfl, rfl, q⟩ := h
  cases (show v = Value.bool b from rx)
  cases (show u = Value.bool c from ry)
  refine PySem.wpAny_is_plain rfl ⟨.bl (b == c), H, I, ?_, q⟩
  cases b <;> cases c <;> rfl
theorem op_notB : OpR X (compareOp .IsNot) rNotB := fun pins s σ H x y v u Q I rx ry h => by
  unfold rNotB at h
  obtain ⟨b, c, rfl, rfl, q⟩ := h
  cases (show v = Value.bool b from rx)
  cases (show u = Value.bool c from ry)
  refine PySem.wpAny_isNot_plain rfl ⟨.bl (!(b == c)), H, I, ?_, q⟩
  cases b <;> cases c <;> rfl
theorem isB_go (q : Q (.bl (b == c)) H) : rIsB (.bl b) (.bl c) H Q := by
  unfold rIsB
  exact ⟨b, c, rfl, rfl, q⟩
theorem notB_go (q : Q (.bl (!(b == c))) H) : rNotB (.bl b) (.bl c) H Q := by
  unfold rNotB
  exact ⟨b, c, rfl, rfl, q⟩
end
theorem tC_go {v : V} {σ : L2.St} {H : Hp} {Q : VK} (q : Q v H) : tC v σ H Q := q
theorem tNoPart_go {σ : L2.St} {H : Hp} {Q : Option Int → Hp → Prop} (q : Q none H) : tNoPart σ H Q := q
/-! ### list(xs) -/
@[irreducible] def rLo (K : PySem.W.Frag) : List V → Hp → VK → Prop := fun vs H Q => ∃ p xs, vs = [.ref p] ∧ (SqL K H p xs ∨ SqT K H p xs) ∧ ∀ l, H l = none → Q (.ref l) (upd H l (.lst xs))
theorem call_lo {X : Cx} : CallR X (.type "list") (rLo X.K) := fun pins s σ H xs us Q I r h => call_list_of pins s σ H xs us Q I r (by unfold rLo at h; exact h)
section
variable {K : PySem.W.Frag} {H : Hp} {p : Addr} {xs : List V} {Q : VK}
theorem lo_l (h : SqL K H p xs) (q : ∀ l, H l = none → Q (.ref l) (upd H l (.lst xs))) : rLo K [.ref p] H Q := by
  unfold rLo
  exact ⟨p, xs, rfl, .inl h, q⟩
theorem lo_t (h : SqT K H p xs) (q : ∀ l, H l = none → Q (.ref l) (upd H l (.lst xs))) : rLo K [.ref p] H Q := by
  unfold rLo
  exact ⟨p, xs, rfl, .inr h, q⟩
end
theorem flatI {fl : List Int} : (fl.map V.int).all flatS = true := by
  rw [List.all_map]
  exact List.all_eq_true.mpr fun _ _ => rfl
/-! ### xs + ys -/
@[irreducible] def rCt : R2 := fun x y H Q => rCat x y H Q
theorem op_ct {X : Cx} : OpR X (binaryOp .Add) rCt := fun pins s σ H x y v u Q I rx ry h => op_cat pins s σ H x y v u Q I rx ry (by unfold rCt at h; exact h)
theorem ct_go {H : Hp} {a b : Addr} {xs ys : List V} {Q : VK} (h1 : H a = some (.lst xs)) (h2 : H b = some (.lst ys)) (hl : xs.length + ys.length ≤ sizeLine) (q : ∀ r, H r = none → Q (.ref r) (upd H r (.lst (xs ++ ys)))) : rCt (.ref a) (.ref b) H Q := by
  unfold rCt
  exact ⟨a, b, xs, ys, rfl, rfl, h1, h2, hl, q⟩
end LB

set_option Elab.async false
set_option linter.all false
set_option maxRecDepth 100000
set_option maxHeartbeats 4000000
/-! an own exception whose __init__ begins with super().__init__(..), over ValueError through own classes -/
namespace LB
open PySem PySem.Spec PyProof.Rows L2 NdefX
/-- what the written part says of such a class: at C, its __init__ at fI, that one's code at cda, the cell of __class__ at cc -/
structure SupC (P : Program) (K : PySem.W.Frag) (mg : Str → Option Value) (C fI cc cda : Addr) : Prop where
  ox : OexC K C
  iC : PySem.W.findIn K (.ref C) "__init__" = some (some (.ref fI))
  tI : PySem.W.typeIn K (.ref fI) = some (.type "function")
  cell : ∃ cl cld csl, K.lookup cc = some ⟨cl, cld, .cell (some (.ref C)), csl⟩
  code : ∃ ccl cdd vs ccs file tf, K.lookup cda = some ⟨ccl, cdd, .fields vs, ccs⟩ ∧ vs[2]? = some (.str file tf) ∧ ((P.main.file : Str) == file) = true
  top : (P.main.scope.names.lookup ("super" : Str)).isSome = false
  zs : mg "super" = none
  self : PySem.W.mroIn K C (.ref C) = some true
  third : PySem.W.nsIn K cStatics "thirdparty.any" = some none
  sup : PySem.W.ks_superIn K C C "__init__" = some (some (.builtin "ValueError.__init__"))
  ve : PySem.W.subIn K (.ref C) (.type "ValueError") = some true
section
variable {CX : CXT} {P : Program} {w : World} {K : PySem.W.Frag} {mg : Str → Option Value} {base : Heap} {C fI cc cda : Addr}
/-- the wrapper's call: the exception's args are laid anew -/
theorem sup_call {X : Cx} {pins : List (Addr × Obj)} {σ : L2.St} {H : Hp} {s : Shared} {a u : Addr} {us : List Value} {A : Around} {E : Value → Shared → Prop} {Q : Value → Shared → Prop} (T : OexC X.K C) (I : Inv X pins σ H s) (e : H a = some (exo a C none))
    (hu : s.heap.get? u = some (PySem.W.kxs_mw "ValueError.__init__" a)) (hl : us.length ≤ sizeLine) (h : ∀ s', Inv X pins σ H s' → Q .none s') : wpAny (model X.prog X.w) A (call (.ref u) us) Q E s := by
  obtain ⟨nm, q, N, bs, bm, sn, sub, ab, col, dd, k0, k1, k2, k3, k5, hC, hbm⟩ := T.cls
  obtain ⟨t1, ho⟩ := exo_at I.hok e
  have hCh := I.kIn _ _ hC
  obtain ⟨hp, g, d, t, os⟩ := s
  refine wpAny_call (codeAny_of_tree ?_)
  show wpAny _ A.in1 (callAny (.ref u) ⟨us, []⟩) _ _ _
  simp only [callAny]
  refine wpAny_bind (wpAny_load hu ?_)
  simp only [PySem.W.kxs_mw, show (Value.type "method-wrapper" == Value.type "method" || Value.type "method-wrapper" == Value.type "builtin_function_or_method" || Value.type "method-wrapper" == Value.type "method-wrapper") = true by decide, if_true]
  refine PySem.W.KFB.if_so (by decide) ?_
  refine wpAny_bind (PySem.W.check_bound_init F.excBase_ValueError.toExcCallFacts hCh ho rfl ?_)
  refine wpAny_bind (wpAny_pure (wpAny_pure ?_))
  refine ⟨plainId_quiet F.excBase_ValueError.init.plain _, codeAny_builtin F.excBase_ValueError.initEntry ?_⟩
  refine PySem.W.exc_init_tree (cls := .ref C) (t0 := t1) (dv := none) (c2 := .none) (c3 := .none) (b4 := .bool false) ho hl fun h' k hx _ => ?_
  have J := I.write (t' := t) (x := a) (e := a) (o := exo a C none) (by rw [e]; exact True.intro) (.inl rfl) k ⟨_, hx⟩ (exo_ok hx)
  have eu : upd H a (exo a C none) = H := by
    funext b
    by_cases hb : b = a
    · rw [hb, upd_same, e]
    · rw [upd_ne hb]
  rw [eu] at J
  exact h _ J
end
/-- the first statement -/
abbrev supS (p1 p2 p3 p4 p5 : Pos) (e : Expr) (es : List Expr) : Stmt := .Expr (.Call (.Attribute (.Call (.Name "super" p1) [] [] p2) "__init__" p3) (e :: es) [] p4) p5
theorem looks_mro {M : Model} {K : PySem.W.Frag} {h : Heap} {C : Addr} {cd : ClassData} (X : K.In h) (hc : PySem.W.clsIn K C = some cd) : PySem.W.Looks M h (mroOf (.ref C)) cd.mro := fun A Q E s k q => wpAny_bind ((PySem.W.looks_clsIn X hc) A _ E s k (wpAny_pure q))
section
variable {CX : CXT} {P : Program} {w : World} {K : PySem.W.Frag} {mg : Str → Option Value} {base : Heap} {C fI cc cda : Addr} {N ps : List Str} {k : Nat} {sp : Sp} {name qual : Str} {params : Arguments} {rest : List Stmt} {scope : Scope} {p1 p2 p3 p4 p5 : Pos} {e : Expr} {es : List Expr}
theorem sup_ok {F : NF} {oc doc pm ct : Value} {od : Option Addr} {osl : Array (Option Value)} (T : SupC P K mg C fI cc cda) (hB : F.body = supS p1 p2 p3 p4 p5 e es :: rest) (hcl : F.cl = [(("__class__" : Str), cc)]) (hca : F.c = cda)
    (lk : K.lookup fI = some ⟨oc, od, .func (F.fd doc pm ct), osl⟩) (hcd : PySem.W.codeIn K (.ref cda) F.qual = true)
    (S : NScope N (("self" : Str) :: ps) ["__class__"] F.scope) (hps : (F.params.posonlyargs ++ F.params.args).head?.map (·.arg) = some ("self" : Str)) (hks : F.scope.names.lookup ("super" : Str) = some .globalImplicit)
    (hb : ∀ us : List Value, us.length = (("self" : Str) :: ps).length → bindArgs (F.fd doc pm ct) ⟨us, []⟩ = pure ((("self" : Str) :: ps).zip us))
    (he : ∀ L, starEach (e :: es) (envF F fI L) = (false, eval e (envF F fI L)) :: starEach es (envF F fI L))
    (hpl : ∀ L, (backTo p4 (starEach es (envF F fI L))).any (·.1) = false)
    (hsw : ∀ L, swapsWith (.Call (.Attribute (.Call (.Name "super" p1) [] [] p2) "__init__" p3) (e :: es) [] p4) none p5.line (envF F fI L) = pure false)
    (hev : ∀ L, ∃ pl, eval (.Call (.Attribute (.Call (.Name "super" p1) [] [] p2) "__init__" p3) (e :: es) [] p4) (envF F fI L) = (do
      let ov ← attributeBase (.Call (.Name "super" p1) [] [] p2) "__init__" (envF F fI L) (eval (.Call (.Name "super" p1) [] [] p2) (envF F fI L))
      standAt p3.atName
      let (f, first) ← holding [ov] (getMethod ov "__init__" pl)
      callWith p4 f first (backTo p4 (starEach (e :: es) (envF F fI L))) []))
    (len : ∀ vs H Q E, sp vs H Q E → vs.length = (("self" : Str) :: ps).length)
    (hbody : ∀ (A : Around) (outer : List Env) (s : Shared) (H : Hp) (vs : List V) (Q : VK) (E : XK), sp vs H Q E →
      ∃ (a : Addr) (xs : List V) (ta : TA) (t : TS), vs = .ref a :: xs ∧ H a = some (exo a C none) ∧ PA (ncx CX P w K mg base N F fI A outer s H E) (e :: es) ta ∧
        PSs (ncx CX P w K mg base N F fI A outer s H E) rest t ∧
        ta (startF N vs [some (.ref C)]) H fun us H1 => us.length ≤ 1000 ∧ H1 a = some (exo a C none) ∧ t { nx := fun _ H' => Q .non H', rt := Q } (startF N vs [some (.ref C)]) H1) :
    FnOk P w K mg base CX (k + 1) fI (F.fd doc pm ct) (("self" : Str) :: ps) sp := by
  obtain ⟨fn_, fq, fp, fb, fs, fcl, fc⟩ := F
  dsimp only at hB hcl hca hcd S hps hks
  subst hB hcl hca
  refine ⟨len, fun A outer s H args us vs Q E hr e0 hbi r hsp => ?_⟩
  have hl := len _ _ _ _ hsp
  have lim : s.heap.NoLimit := e0.mod.nolimit.keeps fun b o e => (e0.bs b o e).1
  have KX : K.In s.heap := e0.mod.kin.keeps fun b o e => (e0.bs b o e).1
  obtain ⟨a, xs, ta, t, rfl, ea, ha, hrest, hq⟩ := hbody A outer s H vs Q E hsp
  obtain ⟨cl, cld, csl, hcell⟩ := T.cell
  obtain ⟨ccl, cdd, cvs, ccs, file, tf, hcode, hvs, hfile⟩ := T.code
  obtain ⟨nm, q0, N0, bs, bm, sn, sub, ab, col, dd, k0, k1, k2, k3, k5, hC, hbm⟩ := T.ox.cls
  obtain ⟨u0, ur, rfl, ru0, rur⟩ : ∃ u0 ur, us = u0 :: ur ∧ RelV (.ref a) u0 ∧ Vals xs ur := by
    cases r with
    | cons h1 h2 => exact ⟨_, _, rfl, h1, h2⟩
  obtain rfl : u0 = Value.ref a := ru0
  have hul : (Value.ref a :: ur).length = (("self" : Str) :: ps).length := r.length.symm.trans hl
  refine ks_codeAny_call_defAt hr.depth (KX _ _ lk) rfl lim (PySem.W.codeRec_of KX hcd) rfl hbi S.nocell (fun ⟨n, _⟩ hy => S.par n (List.of_mem_zip hy).1) (fun h₁ hns kp => ?_) S.co S.gen S.kind
  have CA : CellsAt [(("__class__" : Str), cc)] ["__class__"] [some (.ref C)] s.heap H := by
    have hk : H cc = none := by
      have := (e0.bs cc _ (e0.mod.kin _ _ hcell)).2
      exact this
    have f : ∀ (z : Str) (c' : Addr), List.lookup z [(("__class__" : Str), cc)] = some c' → z = "__class__" ∧ c' = cc := fun z c' h => by
      by_cases q : z = ("__class__" : Str)
      · subst q
        have : some cc = some c' := by simpa [List.lookup] using h
        exact ⟨rfl, (Option.some.inj this).symm⟩
      · have q2 : (z == ("__class__" : Str)) = false := by simpa using q
        simp [List.lookup, q2] at h
    refine ⟨rfl, fun y c hy => ?_, fun x y c hx hy => (f x c hx).1.trans (f y c hy).1.symm, fun i y hi => ?_⟩
    · obtain ⟨_, rfl⟩ := f y c hy
      exact ⟨hk, _, ⟨_, KX _ _ hcell, rfl⟩⟩
    · cases i with
      | zero =>
        have ey : y = "__class__" := (Option.some.inj hi).symm
        subst ey
        exact ⟨cc, by simp [List.lookup], fun v hv => ⟨.ref C, by cases hv; rfl, ⟨_, KX _ _ hcell, rfl⟩⟩⟩
      | succ n => simp at hi
  have I : Inv (ncx CX P w K mg base N (⟨fn_, fq, fp, supS p1 p2 p3 p4 p5 e es :: rest, fs, [(("__class__" : Str), cc)], fc⟩ : NF) fI A outer s H E) [] (startF N (.ref a :: xs) [some (.ref C)]) H { s with heap := h₁, toks := s.toks + ((("self" : Str) :: ps).zip (Value.ref a :: ur)).length } := inv_startN S hr.hd e0 hl r CA hns kp
  refine ks_wpAt_execs_cons (ks_wpAt_Expr_any ?_ (I.quiet) (hsw _))
  obtain ⟨pl, hev⟩ := hev s.heap.objs.size
  refine ks_wpAt_MethodCall ?_ hev
  obtain ⟨ar, hp, har⟩ : ∃ ar, (fp.posonlyargs ++ fp.args).head? = some ar ∧ ar.arg = "self" := by
    cases z : (fp.posonlyargs ++ fp.args).head? with
    | none => rw [z] at hps; cases hps
    | some ar => rw [z] at hps; exact ⟨ar, rfl, Option.some.inj hps⟩
  have hnd : (("self" : Str) :: ps).Nodup := by
    have q := S.nd.sublist (List.take_sublist ((("self" : Str) :: ps).length + [("__class__" : Str)].length) N)
    rw [S.pre] at q
    exact (List.nodup_append.mp q).1
  have hself : ((("self" : Str) :: ps).zip (Value.ref a :: ur)).reverse.lookup ("self" : Str) = some (Value.ref a) := zip_look (i := 0) hnd rfl rfl
  have hcd' : PySem.W.clsIn K C = some { name := nm, bases := bs, mro := .ref C :: bm, ns := N0, qualname := q0, hasDict := true, slotNames := sn, subclasses := sub, abstract := ab, collection := col, hasDel := false } := by unfold PySem.W.clsIn; rw [hC] <;> rfl
  obtain ⟨t1, ho⟩ := exo_at I.hok ea
  have X1 := I.kIn
  refine ks_wpAt_super_base (env := envF (⟨fn_, fq, fp, supS p1 p2 p3 p4 p5 e es :: rest, fs, [(("__class__" : Str), cc)], fc⟩ : NF) fI s.heap.objs.size) hks (S.frk _ List.mem_cons_self) (by decide) rfl (X1 _ _ lk) rfl hp rfl (X1 _ _ hcode) rfl hvs hfile T.top ?_
  obtain ⟨mb, hb1, hb2⟩ := I.mod.blt
  refine PySem.W.ks_loadName_global S.kind hks (PySem.Calls.loadGlobal_builtin (env := envF (⟨fn_, fq, fp, supS p1 p2 p3 p4 p5 e es :: rest, fs, [(("__class__" : Str), cc)], fc⟩ : NF) fI s.heap.objs.size) (I.mod.glob.keeps I.bk) T.zs (hb1.keeps I.bk) ((hb2 _ (by decide +kernel)).trans (show bootBuiltins "super" = some (.type "super") by decide +kernel)) ⟨rfl, ?_⟩)
  refine wpAny_loadName_free S.kind (S.frk _ List.mem_cons_self) rfl ⟨_, X1 _ _ hcell, rfl⟩ ?_
  rw [har]
  refine wpAny_loadName_local S.kind (S.par _ List.mem_cons_self) hns hself ?_
  refine ks_wpAny_isType_cls (X1 _ _ hC) rfl ⟨rfl, ?_⟩
  refine ks_wpAny_call_super (X1 _ _ hC) rfl ho rfl (fun c z => nomatch z) (PySem.W.looks_mroIn X1 T.self) (fun h2 e2 k2 => ?_)
  have I2 := I.kept (t' := s.toks + ((("self" : Str) :: ps).zip (Value.ref a :: ur)).length) k2
  have X2 := I2.kIn
  -- the method
  have hsup := T.sup
  unfold PySem.W.ks_superIn at hsup
  rw [hcd', Option.bind_some] at hsup
  have haC : a ≠ C := fun z => by
    have q1 := X1 _ _ hC
    rw [← z] at q1
    have q2 : some _ = some _ := ho.symm.trans q1
    cases q2
  refine PySem.W.kxs_getMethod PySem.W.kxs_ValueError e2 (PySem.W.looks_opaque X2 T.third) (looks_mro X2 hcd') rfl X2 hsup
    (PySem.W.Looks.andThen (PySem.W.InstAt.type (od := none) ⟨k2 _ _ ho, rfl, rfl, trivial⟩) (PySem.W.looks_subIn X2 T.ve)) haC (by decide) ?_
  have k3' : ∀ b o, h2.get? b = some o → (h2.push (PySem.W.kxs_mw "ValueError.__init__" a)).get? b = some o := fun b o z => Heap.get?_push_of_some _ z
  have hmw : (h2.push (PySem.W.kxs_mw "ValueError.__init__" a)).get? h2.objs.size = some (PySem.W.kxs_mw "ValueError.__init__" a) := Heap.get?_push_at rfl rfl
  have I3 := I2.kept (t' := s.toks + ((("self" : Str) :: ps).zip (Value.ref a :: ur)).length + 1) k3'
  have hfr : H h2.objs.size = none := I2.hok.fresh (Nat.le_refl _)
  have hnL : h2.objs.size ≠ s.heap.objs.size := Nat.ne_of_gt I2.lt
  have hnf : h2.objs.size ∉ (ncx CX P w K mg base N (⟨fn_, fq, fp, supS p1 p2 p3 p4 p5 e es :: rest, fs, [(("__class__" : Str), cc)], fc⟩ : NF) fI A outer s H E).fs := I2.nofs (Nat.le_refl _)
  have I4 : Inv (ncx CX P w K mg base N (⟨fn_, fq, fp, supS p1 p2 p3 p4 p5 e es :: rest, fs, [(("__class__" : Str), cc)], fc⟩ : NF) fI A outer s H E) [(h2.objs.size, PySem.W.kxs_mw "ValueError.__init__" a)] (startF N (.ref a :: xs) [some (.ref C)]) H { s with heap := h2.push (PySem.W.kxs_mw "ValueError.__init__" a), toks := s.toks + ((("self" : Str) :: ps).zip (Value.ref a :: ur)).length + 1 } :=
    I3.pins_of fun p hp => by
      have hp' : p ∈ [(h2.objs.size, PySem.W.kxs_mw "ValueError.__init__" a)] := hp
      obtain rfl := List.mem_singleton.mp hp'
      exact ⟨hmw, hfr, hnL, hnf, fun v z => nomatch z⟩
  refine PySem.W.kxs_callWith (i := "ValueError.__init__") (x := a) ?_ ?_
  · refine Eq.trans (congrArg (fun z => (backTo p4 z).any (·.1)) (he s.heap.objs.size)) ?_
    show (false || (backTo p4 (starEach es (envF (⟨fn_, fq, fp, supS p1 p2 p3 p4 p5 e es :: rest, fs, [(("__class__" : Str), cc)], fc⟩ : NF) fI s.heap.objs.size))).any (·.1)) = false
    rw [hpl]; rfl
  have hrun : wpAny (model P w) (A.deeper (envF (⟨fn_, fq, fp, supS p1 p2 p3 p4 p5 e es :: rest, fs, [(("__class__" : Str), cc)], fc⟩ : NF) fI s.heap.objs.size)) (spliced (backTo p4 (starEach (e :: es) (envF (⟨fn_, fq, fp, supS p1 p2 p3 p4 p5 e es :: rest, fs, [(("__class__" : Str), cc)], fc⟩ : NF) fI s.heap.objs.size)))) _ _ _ := ha.run p4 _ _ _ H _ I4 hq
  rw [he] at hrun
  show wpAny _ _ (evalArgs _ true (backTo p4 (starEach (e :: es) (envF (⟨fn_, fq, fp, supS p1 p2 p3 p4 p5 e es :: rest, fs, [(("__class__" : Str), cc)], fc⟩ : NF) fI s.heap.objs.size))) []) _ _ _
  rw [he]
  refine PySem.Calls.evalArgs_plain (thn hrun fun us' s5 hh => ?_)
  obtain ⟨vs5, H5, I5, r5, l5, ea5, q5⟩ := hh
  have hp5 := I5.pin (h2.objs.size, PySem.W.kxs_mw "ValueError.__init__" a) (List.mem_append_right _ List.mem_cons_self)
  refine ⟨hp5.1, ?_⟩
  refine sup_call T.ox I5 ea5 hp5.1 (by show us'.length ≤ sizeLine; rw [← r5.length, sizeLine_eq]; omega) fun s6 I6 => ?_
  refine wpAt_of_wpAny (wpAny_mono (hrest.run _ s6 _ H5 _ I6 q5) (fun fl s' hs => ?_) fun e s' hs => hs)
  have fin : ∀ {σ' : L2.St} {H' : Hp} {v : V} {u : Value}, Inv (ncx CX P w K mg base N (⟨fn_, fq, fp, supS p1 p2 p3 p4 p5 e es :: rest, fs, [(("__class__" : Str), cc)], fc⟩ : NF) fI A outer s H E) [(h2.objs.size, PySem.W.kxs_mw "ValueError.__init__" a)] σ' H' s' → RelV v u → Q v H' → CE outer P w H s Q u s' :=
    fun {σ' H' v u} J rv q => ⟨v, H', J.os, J.bare, J.base, J.hok, rv, q⟩
  cases fl with
  | ret u =>
    obtain ⟨v, σ', H', J, rv, q⟩ := hs
    exact fin J rv q
  | next =>
    obtain ⟨σ', H', J, q⟩ := hs
    exact fin (v := V.non) (u := Value.none) J rfl q
  | brk =>
    obtain ⟨_, _, _, q⟩ := hs
    exact False.elim q
  | cont =>
    obtain ⟨_, _, _, q⟩ := hs
    exact False.elim q
end
end LB
namespace LB
open PySem PySem.Spec PyProof.Rows L2 NdefX
/-! ### the promise of such an __init__, and what C(..) leaves -/
/-- its fields are told by the arguments -/
def sp_exc (C : Addr) (cond : List V → Prop) (fs : List V → List (Str × V)) (n : Nat) : Sp := fun vs H Q _ => ∃ (a : Addr) (xs : List V), vs = .ref a :: xs ∧ xs.length = n ∧ H a = some (exo a C none) ∧ cond xs ∧
  ∀ (d : Addr) (H' : Hp), H d = none → d ≠ a → H' a = some (exo a C (some d)) → H' d = some (exd d (fs xs)) → (∀ b, b ≠ a → b ≠ d → H' b = H b) → Q .non H'
def tExc (C : Addr) (cond : List V → Prop) (fs : List V → List (Str × V)) (n : Nat) (ta : TA) : L2.St → Hp → XK → Prop := fun σ H Q => ta σ H fun vs H1 => vs.length = n ∧ cond vs ∧ ∀ d, H1 d = none → Q (.ref C) (some d) (upd H1 d (.xd (fs vs)))
structure ExcOk (P : Program) (w : World) (K : PySem.W.Frag) (mg : Str → Option Value) (base : Heap) (C : Addr) (cond : List V → Prop) (fs : List V → List (Str × V)) (n : Nat) : Prop where
  ox : OexC K C
  iC : ∃ fI, PySem.W.findIn K (.ref C) "__init__" = some (some (.ref fI)) ∧ PySem.W.typeIn K (.ref fI) = some (.type "function") ∧ ∃ fd ps, FnOk P w K mg base (L2.CX P w) 1 fI fd ps (sp_exc C cond fs n) ∧ Binds K fd ps []
section
variable {X : Cx} {C : Addr} {cond : List V → Prop} {fs : List V → List (Str × V)} {n : Nat} {x : Str} {p pos pos2 : Pos} {e : Expr} {es : List Expr} {ta : TA} {W : WX}
theorem pmk_exc (T : ExcOk X.prog X.w X.K X.mg X.base C cond fs n) (hn : n ≤ 1000) (hr : Room 2 X.A) (hg : Gl X x) (hm : X.mg x = some (.ref C)) (ha : PA X (e :: es) ta)
    (hdb : (x == ("__debug__" : Str)) = false := by decide) (he : starEach (e :: es) X.env = (false, eval e X.env) :: starEach es X.env := by rfl) (hpl : (backTo pos (starEach es X.env)).any (·.1) = false := by rfl) :
    PMk X (.Call (.Name x p) (e :: es) [] pos) (tExc C cond fs n ta) := by
  obtain ⟨fI, iC, tI, fd, ps, G, b⟩ := T.iC
  have ha2 : PA X (e :: es) (fun σ H R => ∃ R0 : List V → Hp → Prop, ta σ H R0 ∧ ∀ vs H1, R0 vs H1 → R vs H1) := ⟨fun pos pins s σ H R I h => by
    obtain ⟨R0, h0, h1⟩ := h
    refine thn (ha.run pos pins s σ H R0 I h0) fun us s' q => ?_
    obtain ⟨vs, H1, I1, r1, q1⟩ := q
    exact ⟨vs, H1, I1, r1, h1 vs H1 q1⟩⟩
  have key := pmk_oex (CX := L2.CX X.prog X.w) (ds := []) (dvs := []) (pos := pos) (p := p) T.ox iC tI G hr b .nil passX hg hm ha2 hdb he hpl
  intro pins s σ H Q I h
  refine key pins s σ H Q I ⟨_, h, fun vs H1 q => ?_⟩
  obtain ⟨hl, hc, q⟩ := q
  refine ⟨by omega, fun a ha => ?_⟩
  rw [List.append_nil]
  refine ⟨a, vs, rfl, hl, upd_same, hc, fun d H' hd hda e1 e2 e3 => ⟨rfl, d, fs vs, e1, e2, by rw [upd_ne hda] at hd; exact hd, ?_⟩⟩
  have hd1 : H1 d = none := by rw [upd_ne hda] at hd; exact hd
  have eq : upd (del H' a) d (.xd (fs vs)) = upd H1 d (.xd (fs vs)) := by
    funext b
    by_cases hb : b = d
    · rw [hb, upd_same, upd_same]
    · rw [upd_ne hb, upd_ne hb]
      by_cases hba : b = a
      · rw [hba, del_same, ha]
      · rw [del_ne hba, e3 b hba hb, upd_ne hba]
  rw [eq]
  exact q d hd1
theorem ps_raiseX (hc : X.calm = true) (tk : Takes X W) (T : ExcOk X.prog X.w X.K X.mg X.base C cond fs n) (hn : n ≤ 1000) (hr : Room 2 X.A) (hg : Gl X x) (hm : X.mg x = some (.ref C)) (ha : PA X (e :: es) ta)
    (hdb : (x == ("__debug__" : Str)) = false := by decide) (he : starEach (e :: es) X.env = (false, eval e X.env) :: starEach es X.env := by rfl) (hpl : (backTo pos (starEach es X.env)).any (·.1) = false := by rfl) :
    PS X (.Raise (some (.Call (.Name x p) (e :: es) [] pos)) none pos2) (fun _ σ H => tExc C cond fs n ta σ H fun cls d H' => W cls d σ H') := ps_raise hc tk (pmk_exc T hn hr hg hm ha hdb he hpl)
end
/-! ### the class as the text has it -/
/-- C with its __init__ st, as the top leaves them -/
structure XTxt (P : Program) (K : PySem.W.Frag) (mg : Str → Option Value) (qual : Str) (st : Stmt) (C : Addr) : Prop where
  ex : ∃ (fI cc cda : Addr) (oc doc pm ct : Value) (od : Option Addr) (osl : Array (Option Value)), SupC P K mg C fI cc cda ∧
    K.lookup fI = some ⟨oc, od, .func ((⟨"__init__", qual, defArgs st, defBody st, defScope st, [(("__class__" : Str), cc)], cda⟩ : NF).fd doc pm ct), osl⟩ ∧ PySem.W.codeIn K (.ref cda) qual = true
section
variable {P : Program} {w : World} {K : PySem.W.Frag} {mg : Str → Option Value} {base : Heap} {C : Addr} {qual : Str} {st : Stmt} {cond : List V → Prop} {fs : List V → List (Str × V)} {n : Nat} {N ps : List Str} {rest : List Stmt} {p1 p2 p3 p4 p5 : Pos} {e : Expr} {es : List Expr}
theorem XTxt.ok (T : XTxt P K mg qual st C) (hB : defBody st = supS p1 p2 p3 p4 p5 e es :: rest) (hn : n = ps.length)
    (S : NScope N (("self" : Str) :: ps) ["__class__"] (defScope st)) (hps : ((defArgs st).posonlyargs ++ (defArgs st).args).head?.map (·.arg) = some ("self" : Str)) (hks : (defScope st).names.lookup ("super" : Str) = some .globalImplicit)
    (hb : ∀ (cc cda : Addr) (doc pm ct : Value) (us : List Value), us.length = (("self" : Str) :: ps).length → bindArgs ((⟨"__init__", qual, defArgs st, defBody st, defScope st, [(("__class__" : Str), cc)], cda⟩ : NF).fd doc pm ct) ⟨us, []⟩ = pure ((("self" : Str) :: ps).zip us))
    (he : ∀ (cc cda fI L : Addr), starEach (e :: es) (envF ⟨"__init__", qual, defArgs st, defBody st, defScope st, [(("__class__" : Str), cc)], cda⟩ fI L) = (false, eval e (envF ⟨"__init__", qual, defArgs st, defBody st, defScope st, [(("__class__" : Str), cc)], cda⟩ fI L)) :: starEach es (envF ⟨"__init__", qual, defArgs st, defBody st, defScope st, [(("__class__" : Str), cc)], cda⟩ fI L))
    (hpl : ∀ (cc cda fI L : Addr), (backTo p4 (starEach es (envF ⟨"__init__", qual, defArgs st, defBody st, defScope st, [(("__class__" : Str), cc)], cda⟩ fI L))).any (·.1) = false)
    (hsw : ∀ (cc cda fI L : Addr), swapsWith (.Call (.Attribute (.Call (.Name "super" p1) [] [] p2) "__init__" p3) (e :: es) [] p4) none p5.line (envF ⟨"__init__", qual, defArgs st, defBody st, defScope st, [(("__class__" : Str), cc)], cda⟩ fI L) = pure false)
    (hev : ∀ (cc cda fI L : Addr), ∃ pl, eval (.Call (.Attribute (.Call (.Name "super" p1) [] [] p2) "__init__" p3) (e :: es) [] p4) (envF ⟨"__init__", qual, defArgs st, defBody st, defScope st, [(("__class__" : Str), cc)], cda⟩ fI L) = (do
      let ov ← attributeBase (.Call (.Name "super" p1) [] [] p2) "__init__" (envF ⟨"__init__", qual, defArgs st, defBody st, defScope st, [(("__class__" : Str), cc)], cda⟩ fI L) (eval (.Call (.Name "super" p1) [] [] p2) (envF ⟨"__init__", qual, defArgs st, defBody st, defScope st, [(("__class__" : Str), cc)], cda⟩ fI L))
      standAt p3.atName
      let (f, first) ← holding [ov] (getMethod ov "__init__" pl)
      callWith p4 f first (backTo p4 (starEach (e :: es) (envF ⟨"__init__", qual, defArgs st, defBody st, defScope st, [(("__class__" : Str), cc)], cda⟩ fI L))) []))
    (hbody : ∀ (X : Cx) (cc cda fI L : Addr), X.K = K → X.N = N → X.env = envF ⟨"__init__", qual, defArgs st, defBody st, defScope st, [(("__class__" : Str), cc)], cda⟩ fI L → OexC K C →
      ∃ (ta : TA) (t : TS), PA X (e :: es) ta ∧ PSs X rest t ∧ ∀ (a : Addr) (xs : List V) (H : Hp) (Q : VK), xs.length = n → H a = some (exo a C none) → cond xs →
        (∀ (d : Addr) (H' : Hp), H d = none → d ≠ a → H' a = some (exo a C (some d)) → H' d = some (exd d (fs xs)) → (∀ b, b ≠ a → b ≠ d → H' b = H b) → Q .non H') →
        ta (startF N (.ref a :: xs) [some (.ref C)]) H fun us H1 => us.length ≤ 1000 ∧ H1 a = some (exo a C none) ∧ t { nx := fun _ H' => Q .non H', rt := Q } (startF N (.ref a :: xs) [some (.ref C)]) H1) :
    ExcOk P w K mg base C cond fs n := by
  obtain ⟨fI, cc, cda, oc, doc, pm, ct, od, osl, Z, lk, hcd⟩ := T.ex
  refine ⟨Z.ox, fI, Z.iC, Z.tI, _, _, sup_ok (F := ⟨"__init__", qual, defArgs st, defBody st, defScope st, [(("__class__" : Str), cc)], cda⟩) (k := 0) (N := N) (ps := ps) (sp := sp_exc C cond fs n) Z hB rfl rfl lk hcd S hps hks (hb cc cda doc pm ct) (he cc cda fI) (hpl cc cda fI) (hsw cc cda fI) (hev cc cda fI) (fun vs H Q E h => ?_) (fun A outer s H vs Q E h => ?_), .all (hb cc cda doc pm ct)⟩
  · obtain ⟨a, xs, rfl, hl, _⟩ := h
    show xs.length + 1 = ps.length + 1
    omega
  · obtain ⟨a, xs, rfl, hl, ea, hc, q⟩ := h
    obtain ⟨ta, t, h1, h2, h3⟩ := hbody (ncx (L2.CX P w) P w K mg base N ⟨"__init__", qual, defArgs st, defBody st, defScope st, [(("__class__" : Str), cc)], cda⟩ fI A outer s H E) cc cda fI s.heap.objs.size rfl rfl rfl Z.ox
    exact ⟨a, xs, ta, t, rfl, ea, h1, h2, h3 a xs H Q hl ea hc q⟩
/-- two stores behind one another, the first one the exception's first -/
theorem two_stores {K : PySem.W.Frag} {a C : Addr} {f1 f2 : Str} {to1 te1 to2 te2 : TE} {D : Ends} {σ : L2.St} {H : Hp} {y1 y2 : V} (T : OexC K C) (h1 : PySem.W.findIn K (.ref C) f1 = some none) (h2 : PySem.W.findIn K (.ref C) f2 = some none) (ea : H a = some (exo a C none))
    (e1 : ∀ (H1 : Hp) (Q : VK), Q y1 H1 → te1 σ H1 Q) (e2 : ∀ (H1 : Hp) (Q : VK), Q y2 H1 → te2 σ H1 Q) (o1 : ∀ (H1 : Hp) (Q : VK), Q (.ref a) H1 → to1 σ H1 Q) (o2 : ∀ (H1 : Hp) (Q : VK), Q (.ref a) H1 → to2 σ H1 Q)
    (q : ∀ (d : Addr) (H' : Hp), H d = none → d ≠ a → H' a = some (exo a C (some d)) → H' d = some (exd d [(f2, y2), (f1, y1)]) → (∀ b, b ≠ a → b ≠ d → H' b = H b) → D.nx σ H') : tSeq (tOst K f1 to1 te1) (tOst K f2 to2 te2) D σ H := by
  refine e1 _ _ (o1 _ _ ⟨a, C, rfl, T, h1, .inl ⟨ea, fun d hd hda => ?_⟩⟩)
  refine e2 _ _ (o2 _ _ ⟨a, C, rfl, T, h2, .inr ⟨d, [(f1, y1)], upd_same, by rw [upd_ne hda, upd_same], (by show 1 ≤ 900; decide), ?_⟩⟩)
  refine q d _ hd hda (by rw [upd_ne hda.symm, upd_same]) upd_same fun b hb hbd => ?_
  rw [upd_ne hbd, upd_ne hb, upd_ne hbd]
end
end LB

set_option Elab.async false
set_option linter.all false
set_option maxRecDepth 100000
set_option maxHeartbeats 4000000
/-! several except clauses, each with or without a name; what is asked of the caught error -/
namespace LB
open PySem PySem.Spec PyProof.Rows L2
/-- behind a suite its name is empty -/
def goneE (i : Nat) (D : Ends) : Ends where
  nx := fun σ H => D.nx (σ.set i none) H
  rt := D.rt
  bk := fun σ H => D.bk (σ.set i none) H
  ct := fun σ H => D.ct (σ.set i none) H
abbrev Clause := Value × Option Nat × (Addr → Value → Option Addr → TS)
/-- what the suite of a clause is asked, the error at a -/
def inSuite (D : Ends) (nm : Option Nat) (t : TS) (a : Addr) (σ : L2.St) (H : Hp) : Prop := match nm with
  | none => t D σ H
  | some i => t (goneE i D) (σ.set i (some (.ref a))) H
def wX (K : PySem.W.Frag) (Wout : WX) (D : Ends) : List Clause → WX
  | [] => Wout
  | (c, nm, ts) :: r => fun cls d σ H => ∃ b, PySem.W.exmOne K cls c = some b ∧ (b = true → ∀ a, H a = none → inSuite D nm (ts a cls d) a σ H) ∧ (b = false → wX K Wout D r cls d σ H)
inductive HdsX (X : Cx) : List ExceptHandler → List Clause → Prop
  | nil : HdsX X [] []
  | plain {x : Str} {c : Value} {ts : Addr → Value → Option Addr → TS} {st : Stmt} {sts : List Stmt} {q1 q2 : Pos} {hds : List ExceptHandler} {l : List Clause} (hc : Names X x c)
      (suite : ∀ (a : Addr) (oe : Obj) (cls : Value) (d : Option Addr) (pn : List (Addr × Obj)), Zc cls d oe → (∃ us, oe.data = .fields us) → PSs (X.suite a ((a, oe) :: pn)) (st :: sts) (ts a cls d)) (more : HdsX X hds l) :
      HdsX X (.ExceptHandler (some (.Name x q1)) none (st :: sts) q2 :: hds) ((c, none, ts) :: l)
  | named {x n : Str} {i : Nat} {c : Value} {ts : Addr → Value → Option Addr → TS} {st : Stmt} {sts : List Stmt} {q1 q2 : Pos} {hds : List ExceptHandler} {l : List Clause} (hN : X.N.Nodup) (hi : X.N[i]? = some n) (hln : X.env.kindOf n = some .local) (hc : Names X x c)
      (suite : ∀ (a : Addr) (oe : Obj) (cls : Value) (d : Option Addr) (pn : List (Addr × Obj)), Zc cls d oe → (∃ us, oe.data = .fields us) → PSs (X.suite a ((a, oe) :: pn)) (st :: sts) (ts a cls d)) (more : HdsX X hds l) :
      HdsX X (.ExceptHandler (some (.Name x q1)) (some n) (st :: sts) q2 :: hds) ((c, some i, ts) :: l)
section
variable {X : Cx} {pins : List (Addr × Obj)} {σ : L2.St} {H : Hp} {sI sN : Shared} {a : Addr} {B : Heap} {cls : Value} {d : Option Addr}
/-- an error that has landed at this frame: the state without it, the ground, where it stands -/
structure Landed (X : Cx) (pins : List (Addr × Obj)) (σ : L2.St) (H : Hp) (sI sN : Shared) (a : Addr) (B : Heap) (cls : Value) (d : Option Addr) : Prop where
  st : X.stack = X.env :: X.outer
  fr : X.env.frame = some X.env.locals
  I : Inv X pins σ H sI
  nb : ∀ b o, sI.heap.get? b = some o → b ∉ frs X.stack → B.get? b = some o
  up : sI.heap.UpToSlots sN.heap
  na : H a = none
  os : sN.os = sI.os
  ag : AllBare sN.gens
  fly : HandSPX.FlyingZ B (X.env :: X.outer) a (Zc cls d) sN.heap
theorem Landed.inv (L : Landed X pins σ H sI sN a B cls d) : Inv X pins σ H sN := L.I.landed L.nb L.fly.1 L.up L.os L.ag
theorem Landed.off (L : Landed X pins σ H sI sN a B cls d) : a ≠ X.env.locals ∧ a ∉ X.fs := by
  obtain ⟨oe, us, e1, e2, e3⟩ := L.fly.there
  have key : a ∉ frs (X.env :: X.outer) := fun hm => by
    obtain ⟨_, o2, q1, q2⟩ := L.fly.2.2.1.mem hm
    rw [e1] at q1
    cases q1
    exact q2 _ e3
  refine ⟨fun z => key (List.mem_filterMap.mpr ⟨X.env, List.mem_cons_self, by rw [L.fr, z]⟩), fun hm => ?_⟩
  obtain ⟨v, h1, h2⟩ := List.mem_filterMap.mp hm
  exact key (List.mem_filterMap.mpr ⟨v, List.mem_cons_of_mem _ h1, h2⟩)
/-- the clauses, one behind the other -/
theorem clauses {Wout : WX} {D : Ends} (tk : Takes X Wout) (L : Landed X pins σ H sI sN a B cls d) : ∀ {hds : List ExceptHandler} {l : List Clause}, HdsX X hds l → wX X.K Wout D l cls d σ H →
    wpAny (model X.prog X.w) X.A (handleBy (.ref a) X.env hds) (SP X pins D) X.xe sN := by
  intro hds l hk
  have ok := L.I.ok
  have J := L.inv
  obtain ⟨off1, off2⟩ := L.off
  obtain ⟨oe3, us3, g3, z3, f3⟩ := L.fly.there
  have S3 := J.suite g3 f3 L.na off1 off2
  -- a clause's class is read, and asked
  have ask : ∀ {x : Str} {c : Value} {q1 : Pos} {b : Bool} {Q : Bool → Shared → Prop}, Names X x c → PySem.W.exmOne X.K cls c = some b → Q b sN → True := fun _ _ _ => trivial
  have name : ∀ {x : Str} {c : Value} {q1 : Pos} {Q : Value → Shared → Prop} {E : Value → Shared → Prop}, Names X x c → Q c sN → wpAny (model X.prog X.w) (X.A.mark (some (.ref a))) (eval (.Name x q1) X.env) Q E sN := fun hc q => by
    obtain ⟨h1, h2, h3⟩ := hc
    rcases h3 with h3 | ⟨h3, h4, h5⟩
    · exact ld_glob (X := X.suite a ((a, oe3) :: (X.pn ++ pins))) S3 h1 h3 q h2
    · exact ld_blt (X := X.suite a ((a, oe3) :: (X.pn ++ pins))) S3 h1 h3 h4 q h5 h2
  have LT : PySem.W.Looks (model X.prog X.w) sN.heap (typeOf (.ref a)) cls := fun A Q E s k q => wpAny_typeOf_ref (k _ _ g3) (by rw [z3.1]; exact q)
  induction hk with
  | nil =>
    intro wish
    refine wpAny_handleBy_nil ?_
    obtain ⟨_, _, _, oe, us, tr, _, _, e1, e2, e3, e4, _⟩ := id L.fly
    unfold PySem.passOn
    refine wpAny_bind (wpAny_field e1 e3 e4 ?_)
    rw [if_neg (show (Value.ref tr == Value.none) = true → False from by simp)]
    have away : wpAny (model X.prog X.w) X.A (setFlight (.ref a) X.env.frame) (fun _ s4 => wpAny (model X.prog X.w) X.A (throw (.ref a) : Sem Flow) (SP X pins D) X.xe s4) X.xe sN := by
      rw [L.fr]
      refine HandSPX.setFlight_upZ L.fly fun h4 held up4 => wpAny_throw (tk _ _ ?_)
      refine ⟨a, B, sI, pins, σ, H, cls, d, rfl, L.I, L.nb, L.up.trans up4, .inr (.inr ?_), L.na, L.os, L.ag, wish⟩
      rw [L.st]
      exact held
    first
      | exact wpAny_bind (wpAny_pure (wpAny_bind away))
      | exact wpAny_bind away
  | @plain x c ts st sts q1 q2 hds2 l2 hc suite more ih =>
    rintro ⟨b, e1, yes, no⟩
    refine wpAny_handleBy_cons (codeAny_handlers_test ?_) (by intro z; cases z)
    refine name hc ((PySem.W.exm_one (M := model X.prog X.w) J.kIn LT e1).here ?_)
    cases b with
    | false => exact ih (no rfl)
    | true =>
      refine codeAny_handlers_suite (HandSPX.lands_againZ L.fly fun h4 fl4 up4 => ?_)
      have J4 : Inv X pins σ H { sN with heap := h4 } := L.I.landed L.nb fl4.1 (L.up.trans up4) L.os L.ag
      obtain ⟨oe4, us4, g4, z4, f4⟩ := fl4.there
      refine wpAny_mono ((suite a oe4 cls d (X.pn ++ pins) z4 ⟨_, f4⟩).run [] _ _ H _ (J4.suite g4 f4 L.na off1 off2) (yes rfl a L.na)) (fun f s6 out => ?_) (fun _ _ z => False.elim z)
      cases f with
      | ret u =>
        obtain ⟨v6, σ6, H6, S6, r6, k6⟩ := out
        exact ⟨v6, σ6, H6, S6.unsuite ok, r6, k6⟩
      | next =>
        obtain ⟨σ6, H6, S6, k6⟩ := out
        exact ⟨σ6, H6, S6.unsuite ok, k6⟩
      | brk =>
        obtain ⟨σ6, H6, S6, k6⟩ := out
        exact ⟨σ6, H6, S6.unsuite ok, k6⟩
      | cont =>
        obtain ⟨σ6, H6, S6, k6⟩ := out
        exact ⟨σ6, H6, S6.unsuite ok, k6⟩
  | @named x n i c ts st sts q1 q2 hds2 l2 hN hi hln hc suite more ih =>
    rintro ⟨b, e1, yes, no⟩
    refine wpAny_handleBy_cons (codeAny_handlers_test ?_) (by intro z; cases z)
    refine name hc ((PySem.W.exm_one (M := model X.prog X.w) J.kIn LT e1).here ?_)
    cases b with
    | false => exact ih (no rfl)
    | true =>
      refine codeAny_handlers_suite_as (HandSPX.lands_againZ L.fly fun h4 fl4 up4 => ?_)
      have J4 : Inv X pins σ H { sN with heap := h4 } := L.I.landed L.nb fl4.1 (L.up.trans up4) L.os L.ag
      obtain ⟨oe4, us4, g4, z4, f4⟩ := fl4.there
      refine store_ok (X := X.suite a ((a, oe4) :: (X.pn ++ pins))) (v := .ref a) (J4.suite g4 f4 L.na off1 off2) hN hi (.inl hln) rfl (fun s5 S5 => ?_) (.inr hln)
      have leave : ∀ {σ6 : L2.St} {H6 : Hp} {s6 : Shared} {Q : Shared → Prop}, Inv (X.suite a ((a, oe4) :: (X.pn ++ pins))) [] σ6 H6 s6 → (∀ s7, Inv X pins (σ6.set i none) H6 s7 → Q s7) →
          wpAny (model X.prog X.w) X.A (do bindName X.env n .none; unbindBehindTheSuite X.env n q2) (fun _ s7 => Q s7) X.xe s6 := fun S6 k => gone_ok (S6.unsuite ok) hN hi hln k
      refine wpAny_mono ((suite a oe4 cls d (X.pn ++ pins) z4 ⟨_, f4⟩).run [] s5 _ H _ S5 (yes rfl a L.na)) (fun f s6 out => ?_) (fun _ _ z => False.elim z)
      cases f with
      | ret u =>
        obtain ⟨v6, σ6, H6, S6, r6, k6⟩ := out
        exact leave S6 fun s7 J7 => ⟨v6, _, H6, J7, r6, k6⟩
      | next =>
        obtain ⟨σ6, H6, S6, k6⟩ := out
        exact leave S6 fun s7 J7 => ⟨_, H6, J7, k6⟩
      | brk =>
        obtain ⟨σ6, H6, S6, k6⟩ := out
        exact leave S6 fun s7 J7 => ⟨_, H6, J7, k6⟩
      | cont =>
        obtain ⟨σ6, H6, S6, k6⟩ := out
        exact leave S6 fun s7 J7 => ⟨_, H6, J7, k6⟩
end
section
variable {X : Cx} {body : List Stmt} {hd₀ : ExceptHandler} {hds : List ExceptHandler} {l : List Clause} {pos : Pos} {tb : WX → TS} {Wout : WX}
theorem ps_tryX (st : X.stack = X.env :: X.outer) (fr : X.env.frame = some X.env.locals) (tk : Takes X Wout)
    (hb : ∀ (W : WX) (pn : List (Addr × Obj)) (xe : Value → Shared → Prop), Takes (X.tr pn xe) W → PassesOwn (model X.prog X.w) X.A X.env xe → PSs (X.tr pn xe) body (tb W)) (hh : HdsX X (hd₀ :: hds) l) :
    PS X (.Try body (hd₀ :: hds) [] [] pos) (fun D σ H => tb (wX X.K Wout D l) D σ H) := by
  refine ⟨fun pins s σ H D I h => ?_⟩
  have ok := I.ok
  have hfr : X.A.frames = some (X.env :: X.outer) := by rw [ok.frames, st]
  have run := hb (wX X.K Wout D l) (X.pn ++ pins) (fun er s1 => wpAny (model X.prog X.w) X.A (noteFrame er X.env) (fun _ s2 => wpAny (model X.prog X.w) X.A (setFlight er none) (fun _ s3 =>
    wpAny (model X.prog X.w) X.A (handleBy er X.env (hd₀ :: hds)) (SP X pins D) X.xe s3) X.xe s2) X.xe s1) (fun u sN air => ?_) PassesOwn.looking
  · refine wpAny_Try_except (wpAny_mono (run.run [] s σ H D (I.toTry _) h) (fun f s1 out => ?_) (fun er s1 he => he))
    cases f with
    | ret u =>
      obtain ⟨v6, σ6, H6, S6, r6, k6⟩ := out
      exact ⟨v6, σ6, H6, S6.ofTry ok, r6, k6⟩
    | next =>
      obtain ⟨σ6, H6, S6, k6⟩ := out
      exact wpAny_execs_nil ⟨σ6, H6, S6.ofTry ok, k6⟩
    | brk =>
      obtain ⟨σ6, H6, S6, k6⟩ := out
      exact ⟨σ6, H6, S6.ofTry ok, k6⟩
    | cont =>
      obtain ⟨σ6, H6, S6, k6⟩ := out
      exact ⟨σ6, H6, S6.ofTry ok, k6⟩
  · obtain ⟨a, B, sI, pins', σ', H', cls, d, rfl, J', nb, up, sky, na, os, ag, wish⟩ := air
    have sky' : Sky B (X.env :: X.outer) a (Zc cls d) X.env.locals sN.heap := by rw [← st]; exact sky
    refine Sky.land Zc.steady hfr fr sky' fun h3 fl3 up3 => ?_
    exact clauses (sN := { sN with heap := h3 }) tk ⟨st, fr, J'.ofTry ok, nb, up.trans up3, na, os, ag, fl3⟩ hh wish
end
end LB
/-! ### isinstance of the caught error -/
namespace PySem.W
open PySem PySem.Spec PySem.Calls PyProof.Rows
section
variable {prog : Program} {w : World} {A : Around} {E : Value → Shared → Prop} {s : Shared} {K : Frag} {x D : Addr} {ox : Obj} {od : Option Obj}
/-- what is asked of the class -/
structure LbExc (K : Frag) (D : Addr) : Prop where
  ga : findIn K (.ref D) "__getattribute__" = some (some (.builtin "BaseException.__getattribute__"))
  gg : findIn K (.ref D) "__getattr__" = some none
  sb : subIn K (.ref D) (.type "BaseException") = some true
  hd : hasDictIn K D = true
  ha : findIn K (.ref D) "__class__" = some (some (.builtin "object.__class__"))
  hn : specialIn K (.builtin "object.__class__") "__get__" = some (some (.builtin "getset_descriptor.__get__"))
  ht : takesIn K (.builtin "object.__class__") = some true
  hm : mroIn K D (.type "object") = some true
theorem lb_find (C : LbExc K D) : findObj K D od "__class__" = some (.bind (.builtin "getset_descriptor.__get__") (.builtin "object.__class__")) := by
  obtain ⟨cd, hc, _⟩ := any_some C.hd
  unfold findObj
  rw [hc, Option.bind_some, C.ha, Option.bind_some]
  simp [C.hn, C.ht]
theorem lb_class {Q : Option Value → Shared → Prop} (C : LbExc K D) (X : K.In s.heap) (I : InstAt s.heap x ox D od) (h : Q (some (.ref D)) { s with toks := s.toks + 1 }) : wpAny (model prog w) A (getAttr? (.ref x) "__class__") Q E s := by
  obtain ⟨hp, g, d, t, os⟩ := s
  have T := I.type (M := model prog w)
  have F3 := looks_find (M := model prog w) X I (lb_find (od := od) C)
  have ne : (Value.builtin "BaseException.__getattribute__" == Value.builtin "object.__getattribute__") = false := by decide +kernel
  unfold getAttr? getAttrBy? getAttrBy
  refine wpAny_bind (wpAny_mkText (wpAny_bind (wpAny_attempt (wpAny_holding (wpAny_bind (T.at (wpAny_bind ((looks_findIn (M := model prog w) X C.ga).at ?_))))))))
  dsimp only
  rw [if_neg (show ¬ (onTheHeap (Value.ref D) && Value.builtin "BaseException.__getattribute__" == Value.builtin "object.__getattribute__") = true by rw [ne, Bool.and_false]; exact Bool.false_ne_true)]
  unfold getAttrByItsOwn hookBefore
  refine wpAny_bind ?_
  rw [if_pos (show onTheHeap (Value.ref D) = true from rfl)]
  refine (looks_findIn (M := model prog w) X C.gg).at (wpAny_bind (wpAny_attempt (wpAny_holding ?_)))
  unfold callGetattribute
  rw [if_neg (show ¬ (false && onTheHeap (Value.builtin "BaseException.__getattribute__")) = true from Bool.false_ne_true)]
  unfold boundAndCalled
  rw [PySem.F.excAttr_ValueError.ga.bind (.ref x)]
  refine wpAny_bind (wpAny_pure (wpAny_call (codeAny_call_builtin PySem.F.excAttr_ValueError.ga.plain PySem.F.entry_bexc_ga ?_)))
  refine @check_slot (model prog w) _ _ ⟨hp, g, d, t + 1, os⟩ "BaseException.__getattribute__" "BaseException" "__getattribute__" (.ref x) [.str "__class__" t] [] _ (by decide +kernel) (by decide +kernel) (T.andThen (looks_subIn X C.sb)) (PySem.F.args_bexc_ga (.ref x) (.str "__class__" t)) ?_
  unfold Builtin.«object.__getattribute__»
  refine wpAny_bind (wpAny_of_eq (a := ((Value.ref x : Value), [Value.str "__class__" t])) (by first | rfl | (simp only [slotArgs]; rfl)) (wpAny_bind (wpAny_pure (wpAny_bind (T.at (wpAny_bind (F3.at ?_)))))))
  refine wpAny_bind (wpAny_holding (wpAny_call (class_get (s := ⟨hp, g, d, t + 1, os⟩) (ox := ox) (od := od) X I C.hm ?_)))
  refine wpAny_pure ?_
  show wpAny _ _ (handedOut (.ref D)) _ _ _
  rw [handedOut_of (v := .ref D) rfl]
  first
    | exact wpAny_pure (wpAny_pure h)
    | exact wpAny_pure h
    | exact wpAny_pure (wpAny_bind (wpAny_pure (wpAny_pure h)))
theorem lb_kit (C : LbExc K D) : KitX K (.ref x) (.ref D) (fun h => ∃ ox od, InstAt h x ox D od) where
  ty := fun _ _ _ ⟨_, _, I⟩ => I.type
  it := fun _ _ X _ => by
    obtain ⟨cdD, hcD, _⟩ := any_some C.hd
    unfold clsIn at hcD
    split at hcD
    · rename_i ho
      intro A' Q' E' s' k q
      unfold isType loadHead
      exact wpAny_bind (wpAny_loadPart (k _ _ (X _ _ ho)) (wpAny_pure q))
    · cases hcD
  ne := fun h tp dd its n sl X htp => by
    obtain ⟨cdD, hcD, _⟩ := any_some C.hd
    refine Bool.eq_false_iff.mpr fun q => ?_
    obtain rfl : D = tp := Value.ref.inj (beq_iff_eq.mp q)
    unfold clsIn at hcD
    split at hcD
    · rename_i ho
      have z := (X _ _ ho).symm.trans htp
      cases z
    · cases hcD
  ca := fun X ⟨_, _, I⟩ k => lb_class C X I k
end
end PySem.W
namespace LB
open PySem PySem.Spec PyProof.Rows L2
@[irreducible] def rIsX (K : PySem.W.Frag) (a D : Addr) (cls : Value) (d : Option Addr) : List V → Hp → VK → Prop := fun xs H Q => ∃ (c : V) (cv : Value) (b : Bool), xs = [.ref a, c] ∧ cls = .ref D ∧ ClsV c cv ∧ PySem.W.kitOne K (.ref D) cv = some b ∧ (∃ dd fs, d = some dd ∧ H dd = some (.xd fs)) ∧ Q (.bl b) H
theorem call_isX {X : Cx} {a D : Addr} {oe : Obj} {cls : Value} {d : Option Addr} {pn : List (Addr × Obj)} (C : PySem.W.LbExc X.K D) (hz : Zc cls d oe) (hf : ∃ vs, oe.data = .fields vs) : CallR (X.suite a ((a, oe) :: pn)) (.builtin "isinstance") (rIsX X.K a D cls d) := by
  intro pins s σ H xs us Q I r h
  unfold rIsX at h
  obtain ⟨c, cv, b, rfl, rfl, hcv, e, ⟨dd, fs, rfl, ed⟩, q⟩ := h
  obtain ⟨u1, u2, rfl, r1, r2⟩ := vals2 r
  obtain rfl := hcv.eq r2
  obtain rfl : u1 = Value.ref a := r1
  obtain ⟨hget, _⟩ := I.pin (a, oe) (List.mem_append.mpr (.inl List.mem_cons_self))
  obtain ⟨vs, hv⟩ := hf
  have hx : ObjOk X.prog X.w H s.heap dd (.xd fs) := I.hok dd _ ed
  obtain ⟨mA, ⟨od, _, _, ho, _⟩, _⟩ := hx
  have J : PySem.W.InstAt s.heap a oe D (some od) := ⟨hget, hz.1, by unfold PySem.W.notCls; rw [hv] <;> rfl, by rw [hz.2]; exact ho⟩
  exact PySem.W.kia_one (PySem.W.lb_kit C) I.kIn ⟨oe, some od, J⟩ e (fun z => nomatch z) fun tk => ⟨.bl b, H, I.kept (t' := tk) fun _ _ z => z, rfl, q⟩
end LB
namespace LB
open PySem PySem.Spec PyProof.Rows L2
/-- an exception class of the text: what raising, catching and asking want of it -/
structure ECls (K : PySem.W.Frag) (C : Addr) : Prop where
  lx : PySem.W.LbExc K C
  ty : PySem.W.typeIn K (.ref C) = some (.type "type")
  self : PySem.W.mroIn K C (.ref C) = some true
theorem ECls.isCls {K : PySem.W.Frag} {C : Addr} (E : ECls K C) : ((PySem.W.clsIn K C).isSome && PySem.W.typeIn K (.ref C) == some (.type "type")) = true := by
  obtain ⟨cd, hc, _⟩ := PySem.W.any_some E.lx.hd
  rw [hc, E.ty]
  rfl
theorem ECls.exm {K : PySem.W.Frag} {Y C : Addr} {b : Bool} (E : ECls K C) (h : PySem.W.subIn K (.ref Y) (.ref C) = some b) : PySem.W.exmOne K (.ref Y) (.ref C) = some b :=
  PySem.W.exm_ref E.lx.sb E.lx.hd E.ty h
theorem ECls.kit {K : PySem.W.Frag} {Y C : Addr} {b : Bool} (E : ECls K C) (h : PySem.W.subIn K (.ref Y) (.ref C) = some b) : PySem.W.kitOne K (.ref Y) (.ref C) = some b := by
  unfold PySem.W.kitOne
  by_cases e : (Value.ref Y == Value.ref C) = true
  · rw [if_pos e]
    have e2 : Y = C := Value.ref.inj (beq_iff_eq.mp e)
    subst e2
    have h2 : PySem.W.mroIn K Y (.ref Y) = some b := h
    rw [E.self] at h2
    exact h2
  · rw [if_neg e]
    show (if ((PySem.W.clsIn K C).isSome && PySem.W.typeIn K (.ref C) == some (.type "type")) = true then PySem.W.subIn K (.ref Y) (.ref C) else none) = some b
    rw [if_pos E.isCls]
    exact h
theorem kit_ve {K : PySem.W.Frag} {Y : Addr} {b : Bool} (h : PySem.W.subIn K (.ref Y) (.type "ValueError") = some b) : PySem.W.kitOne K (.ref Y) (.type "ValueError") = some b := by
  unfold PySem.W.kitOne
  rw [if_neg (show ¬ (Value.ref Y == Value.type "ValueError") = true from fun z => nomatch beq_iff_eq.mp z)]
  show (if PySem.W.kitMeta "ValueError" = true then PySem.W.subIn K (.ref Y) (.type "ValueError") else none) = some b
  rw [if_pos (by decide +kernel)]
  exact h
theorem ECls.xf {K : PySem.W.Frag} {C : Addr} (E : ECls K C) : XfC K C := ⟨E.lx.ga, E.lx.gg, E.lx.sb, E.lx.hd⟩
/-- what an error with one own field holds -/
def fs1 (label field : Str) : List V → List (Str × V) := fun xs => [(field, xs.headD .non), ("label", .str label)]
def text1 : List V → Prop := fun xs => ∃ z : Str, xs = [.str z] ∧ z.length ≤ 1000000
theorem text_len (a z : Str) (h1 : a.length ≤ 1000) (h2 : z.length ≤ 1000000) : (Str.empty ++ a).length ≤ sizeLine ∧ (Str.empty ++ a ++ z).length ≤ sizeLine := by
  have e1 : ∀ x y : Str, (x ++ y).length = x.length + y.length := fun x y => Array.size_append
  have e0 : Str.empty.length = 0 := rfl
  rw [e1, e1, e1, e0, sizeLine_eq]
  omega
section
variable {K : PySem.W.Frag}
theorem wx_hit {Wout : WX} {D : Ends} {c cls : Value} {nm : Option Nat} {ts : Addr → Value → Option Addr → TS} {r : List Clause} {d : Option Addr} {σ : L2.St} {H : Hp} (e : PySem.W.exmOne K cls c = some true) (h : ∀ a, H a = none → inSuite D nm (ts a cls d) a σ H) :
    wX K Wout D ((c, nm, ts) :: r) cls d σ H := ⟨true, e, fun _ => h, fun z => nomatch z⟩
theorem wx_miss {Wout : WX} {D : Ends} {c cls : Value} {nm : Option Nat} {ts : Addr → Value → Option Addr → TS} {r : List Clause} {d : Option Addr} {σ : L2.St} {H : Hp} (e : PySem.W.exmOne K cls c = some false) (h : wX K Wout D r cls d σ H) :
    wX K Wout D ((c, nm, ts) :: r) cls d σ H := ⟨false, e, fun z => (nomatch z), fun _ => h⟩
theorem isX_go {a D C dd : Addr} {fs : List (Str × V)} {b : Bool} {H : Hp} {Q : VK} (k : PySem.W.kitOne K (.ref D) (.ref C) = some b) (e : H dd = some (.xd fs)) (q : Q (.bl b) H) : rIsX K a D (.ref D) (some dd) [.ref a, .ref C] H Q := by
  unfold rIsX
  exact ⟨_, _, b, rfl, rfl, .own _, k, ⟨dd, fs, rfl, e⟩, q⟩
theorem isX_ve {a D dd : Addr} {fs : List (Str × V)} {b : Bool} {H : Hp} {Q : VK} (k : PySem.W.subIn K (.ref D) (.type "ValueError") = some b) (e : H dd = some (.xd fs)) (q : Q (.bl b) H) : rIsX K a D (.ref D) (some dd) [.ref a, .ty "ValueError"] H Q := by
  unfold rIsX
  exact ⟨_, _, b, rfl, rfl, .ty _, kit_ve k, ⟨dd, fs, rfl, e⟩, q⟩
end
end LB

set_option Elab.async false
set_option linter.all false
set_option maxRecDepth 100000
set_option maxHeartbeats 4000000
/-! a sum of flows at a scaled factor: the plain side -/
namespace LB
open PySem PySem.Spec PyProof.Rows L2
/-- the sum after t months from the end, at the numerator x over 2^b -/
def hor (fl : List Int) (x : Int) (b : Nat) : Nat → Int
  | 0 => 0
  | t + 1 => hor fl x b t * x + cell fl (fl.length - 1 - t) * 2 ^ (b * t)
structure Flows (fl : List Int) : Prop where
  n2 : 2 ≤ fl.length
  n3 : fl.length ≤ 481
  lo : -1000000000000 ≤ cell fl 0
  neg : cell fl 0 < 0
  nn : ∀ i, 1 ≤ i → 0 ≤ cell fl i
  hi : ∀ i, cell fl i ≤ 1000000000000
  pos : ∃ i, 1 ≤ i ∧ i < fl.length ∧ 0 < cell fl i
theorem pow_pos2 (n : Nat) : (0 : Int) < 2 ^ n := Int.pow_pos (by decide)
theorem pow_le2 {b c : Nat} (h : b ≤ c) : (2 : Int) ^ b ≤ 2 ^ c := by
  obtain ⟨d, rfl⟩ := Nat.exists_eq_add_of_le h
  rw [Int.pow_add]
  have h1 := pow_pos2 b
  have h2 := pow_pos2 d
  have h3 : (2 : Int) ^ b * 1 ≤ 2 ^ b * 2 ^ d := Int.mul_le_mul_of_nonneg_left (by omega) (Int.le_of_lt h1)
  omega
theorem Flows.csz {fl : List Int} (F : Flows fl) (i : Nat) : Sz 44 (cell fl i) := by
  have h1 := F.hi i
  have h2 : -1000000000000 ≤ cell fl i := by
    by_cases h : 1 ≤ i
    · have := F.nn i h; omega
    · have e : i = 0 := by omega
      subst e
      exact F.lo
  exact ⟨by omega⟩
theorem Sz.pow2 (n : Nat) : Sz (n + 1) ((2 : Int) ^ n) := ⟨by
  rw [Int.natAbs_pow]
  exact Nat.pow_lt_pow_right (by decide) (Nat.lt_succ_self n)⟩
theorem hor_sz {fl : List Int} {x : Int} {b m : Nat} (hc : ∀ i, Sz 44 (cell fl i)) (hx : Sz m x) : ∀ t, t ≤ 481 → Sz (t * (m + 46 + b * 481)) (hor fl x b t)
  | 0, _ => Sz.zero _
  | t + 1, h => by
    have i1 := hor_sz (b := b) hc hx t (by omega)
    have s := (i1.mul hx).add ((hc (fl.length - 1 - t)).mul (Sz.pow2 (b * t)))
    refine s.mono ?_
    have : b * t ≤ b * 481 := Nat.mul_le_mul_left b (by omega)
    rw [Nat.succ_mul]
    omega
theorem hor_cm {fl : List Int} {x : Int} {b m : Nat} (hc : ∀ i, Sz 44 (cell fl i)) (hx : Sz m x) (hb : b ≤ 100) (hm : m ≤ 1000) {t : Nat} (ht : t ≤ 481) : CM (hor fl x b t) x := by
  refine CM.of (hor_sz hc hx t ht) hx ?_
  have h1 : t * (m + 46 + b * 481) ≤ 481 * (1000 + 46 + 100 * 481) := Nat.mul_le_mul ht (by omega)
  omega
theorem hor_nn {fl : List Int} {x : Int} {b : Nat} (F : Flows fl) (hx : 0 ≤ x) : ∀ t, t < fl.length → 0 ≤ hor fl x b t
  | 0, _ => Int.le_refl _
  | t + 1, h => by
    have i1 := hor_nn (b := b) F hx t (by omega)
    have h1 := F.nn (fl.length - 1 - t) (by omega)
    exact Int.add_nonneg (Int.mul_nonneg i1 hx) (Int.mul_nonneg h1 (Int.le_of_lt (pow_pos2 _)))
theorem hor_mono {fl : List Int} {x y : Int} {b : Nat} (F : Flows fl) (hx : 0 ≤ x) (h : x ≤ y) : ∀ t, t ≤ fl.length → hor fl x b t ≤ hor fl y b t
  | 0, _ => Int.le_refl _
  | t + 1, hl => by
    have i1 := hor_mono (b := b) F hx h t (by omega)
    have i2 := hor_nn (b := b) F hx t (by omega)
    have i3 : hor fl x b t * x ≤ hor fl y b t * y := Int.mul_le_mul i1 h hx (Int.le_trans i2 i1)
    exact Int.add_le_add_right i3 _
theorem hor_ge {fl : List Int} {x : Int} {b : Nat} (F : Flows fl) (hx : 2 ^ b ≤ x) {i : Nat} (h1 : 1 ≤ i) (h2 : i < fl.length) (hp : 0 < cell fl i) : ∀ t, fl.length - 1 - i ≤ t → t + 1 < fl.length → 2 ^ (b * t) ≤ hor fl x b (t + 1)
  | t, ht, hl => by
    have hx0 : 0 ≤ x := Int.le_trans (Int.le_of_lt (pow_pos2 b)) hx
    by_cases e : t = fl.length - 1 - i
    · have n1 := Int.mul_nonneg (hor_nn (b := b) F hx0 t (by omega)) hx0
      have e2 : fl.length - 1 - t = i := by omega
      show 2 ^ (b * t) ≤ hor fl x b t * x + cell fl (fl.length - 1 - t) * 2 ^ (b * t)
      rw [e2]
      have : 1 * 2 ^ (b * t) ≤ cell fl i * 2 ^ (b * t) := Int.mul_le_mul_of_nonneg_right (by omega) (Int.le_of_lt (pow_pos2 _))
      omega
    · cases t with
      | zero => omega
      | succ t =>
        have i1 := hor_ge F hx h1 h2 hp t (by omega) (by omega)
        have n1 := F.nn (fl.length - 1 - (t + 1)) (by omega)
        have n2 := Int.mul_nonneg n1 (Int.le_of_lt (pow_pos2 (b * (t + 1))))
        have i3 : 2 ^ (b * t) * 2 ^ b ≤ hor fl x b (t + 1) * x := Int.mul_le_mul i1 hx (Int.le_of_lt (pow_pos2 b)) (Int.le_trans (Int.le_of_lt (pow_pos2 _)) i1)
        rw [← Int.pow_add, ← Nat.mul_succ] at i3
        change 2 ^ (b * (t + 1)) ≤ _ at i3
        show _ ≤ hor fl x b (t + 1) * x + _
        omega
theorem hor_pos {fl : List Int} {x : Int} {b : Nat} (F : Flows fl) (hx : 1000000000000 * 2 ^ b < x) : 0 < hor fl x b fl.length := by
  obtain ⟨i, h1, h2, hp⟩ := F.pos
  have p := pow_pos2 b
  have hx2 : 2 ^ b ≤ x := by omega
  obtain ⟨n, e⟩ : ∃ n, fl.length = n + 1 + 1 := ⟨fl.length - 2, by have := F.n2; omega⟩
  have g := hor_ge F hx2 h1 h2 hp n (by omega) (by omega)
  rw [e]
  show 0 < hor fl x b (n + 1) * x + cell fl (fl.length - 1 - (n + 1)) * 2 ^ (b * (n + 1))
  have e2 : fl.length - 1 - (n + 1) = 0 := by omega
  rw [e2, Nat.mul_succ, Int.pow_add]
  have p2 := pow_pos2 (b * n)
  have l := F.lo
  have i1 : 2 ^ (b * n) * x ≤ hor fl x b (n + 1) * x := Int.mul_le_mul_of_nonneg_right g (by omega)
  have i2 : 2 ^ (b * n) * (1000000000000 * 2 ^ b) < 2 ^ (b * n) * x := Int.mul_lt_mul_of_pos_left hx p2
  have i3 : -1000000000000 * (2 ^ (b * n) * 2 ^ b) ≤ cell fl 0 * (2 ^ (b * n) * 2 ^ b) := Int.mul_le_mul_of_nonneg_right l (Int.mul_nonneg (Int.le_of_lt p2) (Int.le_of_lt p))
  have i4 : (2 : Int) ^ (b * n) * (1000000000000 * 2 ^ b) = 1000000000000 * (2 ^ (b * n) * 2 ^ b) := Int.mul_left_comm _ _ _
  generalize (2 : Int) ^ (b * n) * 2 ^ b = z at *
  generalize (2 : Int) ^ (b * n) * x = z2 at *
  generalize cell fl 0 * z = z3 at *
  omega
theorem hor_0 {fl : List Int} {b : Nat} (F : Flows fl) : hor fl 0 b fl.length < 0 := by
  obtain ⟨n, e⟩ : ∃ n, fl.length = n + 1 := ⟨fl.length - 1, by have := F.n2; omega⟩
  rw [e]
  show hor fl 0 b n * 0 + cell fl (fl.length - 1 - n) * 2 ^ (b * n) < 0
  have e2 : fl.length - 1 - n = 0 := by omega
  rw [e2, Int.mul_zero, Int.zero_add]
  exact Int.mul_neg_of_neg_of_pos F.neg (pow_pos2 _)
/-- where the sum turns positive -/
def Place (fl : List Int) (b : Nat) (k : Int) : Prop := 0 ≤ k ∧ hor fl k b fl.length ≤ 0 ∧ 0 < hor fl (k + 1) b fl.length
theorem place_one {fl : List Int} {b : Nat} (F : Flows fl) {k j : Int} (h : Place fl b k) (h' : Place fl b j) : k = j := by
  obtain ⟨a1, a2, a3⟩ := h
  obtain ⟨c1, c2, c3⟩ := h'
  by_cases e : k < j
  · have := hor_mono (b := b) F (x := k + 1) (y := j) (by omega) (by omega) fl.length (Nat.le_refl _)
    omega
  · by_cases e2 : j < k
    · have := hor_mono (b := b) F (x := j + 1) (y := k) (by omega) (by omega) fl.length (Nat.le_refl _)
      omega
    · omega
theorem pow_ub {b j : Nat} (hb : b ≤ 41) (hj : 82 ≤ j) : (1000000000000 : Int) * 2 ^ b < 2 ^ j := by
  have h1 : (2 : Int) ^ b ≤ 2 ^ 41 := pow_le2 hb
  have h2 : (2 : Int) ^ 82 ≤ 2 ^ j := pow_le2 hj
  have h3 : (1000000000000 : Int) * 2 ^ 41 < 2 ^ 82 := by decide
  omega
/-- what is refused of a list of flows -/
def flowErr (fl : List Int) : Option Int :=
  if fl.length < 2 ∨ 481 < fl.length then some fl.length
  else if 0 ≤ cell fl 0 then some (cell fl 0)
  else match (fl.drop 1).find? (fun z => decide (z < 0)) with
    | some z => some z
    | none => if (fl.drop 1).all (fun z => decide (z = 0)) = true then some 0 else none
def Small (fl : List Int) : Prop := ∀ i, -1000000000000 ≤ cell fl i ∧ cell fl i ≤ 1000000000000
theorem Small.csz {fl : List Int} (F : Small fl) (i : Nat) : Sz 44 (cell fl i) := by
  have := F i
  exact ⟨by omega⟩
theorem cell_mem {fl : List Int} {i : Nat} (h : i < fl.length) : cell fl i ∈ fl := by
  unfold cell
  rw [List.getD_eq_getElem?_getD, List.getElem?_eq_getElem h]
  exact List.getElem_mem h
theorem cell_out {fl : List Int} {i : Nat} (h : fl.length ≤ i) : cell fl i = 0 := by
  unfold cell
  rw [List.getD_eq_getElem?_getD, List.getElem?_eq_none h]
  rfl
theorem mem_cell {fl : List Int} {z : Int} (h : z ∈ fl) : ∃ i, i < fl.length ∧ cell fl i = z := by
  obtain ⟨i, hi, e⟩ := List.mem_iff_getElem.mp h
  refine ⟨i, hi, ?_⟩
  unfold cell
  rw [List.getD_eq_getElem?_getD, List.getElem?_eq_getElem hi]
  exact e
theorem mem_drop {fl : List Int} {z : Int} : z ∈ fl.drop 1 ↔ ∃ i, 1 ≤ i ∧ i < fl.length ∧ cell fl i = z := by
  constructor
  · intro h
    obtain ⟨i, hi, e⟩ := List.mem_iff_getElem.mp h
    rw [List.length_drop] at hi
    rw [List.getElem_drop] at e
    refine ⟨1 + i, by omega, by omega, ?_⟩
    unfold cell
    rw [List.getD_eq_getElem?_getD, List.getElem?_eq_getElem (by omega)]
    exact e
  · rintro ⟨i, h1, h2, e⟩
    refine List.mem_iff_getElem.mpr ⟨i - 1, by rw [List.length_drop]; omega, ?_⟩
    rw [List.getElem_drop, ← e]
    unfold cell
    rw [List.getD_eq_getElem?_getD, List.getElem?_eq_getElem h2]
    show fl[1 + (i - 1)] = fl[i]
    congr 1
    omega
theorem flows_of {fl : List Int} (B : Small fl) (h : flowErr fl = none) : Flows fl := by
  unfold flowErr at h
  split at h
  · cases h
  · rename_i c1
    split at h
    · cases h
    · rename_i c2
      split at h
      · cases h
      · rename_i c3
        split at h
        · cases h
        · rename_i c4
          have nn : ∀ i, 1 ≤ i → 0 ≤ cell fl i := fun i hi => by
            by_cases hl : i < fl.length
            · have := List.find?_eq_none.mp c3 (cell fl i) (mem_drop.mpr ⟨i, hi, hl, rfl⟩)
              simp only [decide_eq_true_eq] at this
              omega
            · rw [cell_out (by omega)]
              exact Int.le_refl _
          refine ⟨by omega, by omega, (B 0).1, by omega, nn, fun i => (B i).2, ?_⟩
          rw [Bool.not_eq_true, List.all_eq_false] at c4
          obtain ⟨z, hz, c⟩ := c4
          obtain ⟨i, h1, h2, e⟩ := mem_drop.mp hz
          refine ⟨i, h1, h2, ?_⟩
          have := nn i h1
          simp only [decide_eq_true_eq] at c
          omega
theorem err_none {fl : List Int} (F : Flows fl) : flowErr fl = none := by
  unfold flowErr
  have h1 := F.n2
  have h2 := F.n3
  have h3 := F.neg
  rw [if_neg (by omega), if_neg (by omega)]
  have e : (fl.drop 1).find? (fun z => decide (z < 0)) = none := by
    refine List.find?_eq_none.mpr fun z hz => ?_
    obtain ⟨i, i1, i2, e⟩ := mem_drop.mp hz
    have := F.nn i i1
    simp only [decide_eq_true_eq]
    omega
  rw [e]
  obtain ⟨i, i1, i2, i3⟩ := F.pos
  have : ¬ (fl.drop 1).all (fun z => decide (z = 0)) = true := by
    intro h
    have := List.all_eq_true.mp h (cell fl i) (mem_drop.mpr ⟨i, i1, i2, rfl⟩)
    simp only [decide_eq_true_eq] at this
    omega
  simp only [this]
  rfl
theorem Flows.small {fl : List Int} (F : Flows fl) : Small fl := fun i => by
  have h1 := F.hi i
  refine ⟨?_, h1⟩
  by_cases h : 1 ≤ i
  · have := F.nn i h; omega
  · have e : i = 0 := by omega
    subst e
    exact F.lo
theorem atI_cl {fl : List Int} {z : Int} (j : Nat) (h : j < fl.length) (e : z = j) : atI (fl.map V.int) z = some (V.int (cell fl j)) := by
  subst e
  exact atI_map_cell h
theorem cut_1 {fl : List Int} (h : 1 ≤ fl.length) : cutV (fl.map V.int) (some 1) none = (fl.drop 1).map V.int := by
  unfold cutV
  have e1 : HT.sIx (fl.map V.int).length 0 (some 1) = 1 := by
    rw [List.length_map]
    exact (HT.sIx_nat fl.length 0 1).trans (Nat.min_eq_left h)
  have e2 : HT.sIx (fl.map V.int).length (fl.map V.int).length none = fl.length := by
    rw [List.length_map]
    rfl
  rw [e1, e2, ← List.map_drop, List.take_of_length_le]
  rw [List.length_map, List.length_drop]
  exact Nat.le_refl _
theorem find_neg {x : Int} (hx : x < 0) : ∀ {i : Nat} {l : List Int}, l[i]? = some x → (∀ j, j < i → ∀ y, l[j]? = some y → 0 ≤ y) → l.find? (fun z => decide (z < 0)) = some x
  | 0, [], h, _ => by cases h
  | 0, a :: r, h, _ => by
    cases h
    rw [List.find?_cons, decide_eq_true hx]
  | i + 1, [], h, _ => by cases h
  | i + 1, a :: r, h, hb => by
    have h0 := hb 0 (by omega) a rfl
    rw [List.find?_cons, decide_eq_false (by omega)]
    exact find_neg hx (i := i) (l := r) h fun j hj y hy => hb (j + 1) (by omega) y hy
theorem find_nn {l : List Int} (h : ∀ z ∈ l, 0 ≤ z) : l.find? (fun z => decide (z < 0)) = none := List.find?_eq_none.mpr fun z hz => by
  have := h z hz
  simp only [decide_eq_true_eq]
  omega
theorem cell_set {fl : List Int} {j : Nat} {v : Int} (i : Nat) : cell (fl.set j v) i = if i = j ∧ j < fl.length then v else cell fl i := by
  unfold cell
  rw [List.getD_eq_getElem?_getD, List.getD_eq_getElem?_getD, List.getElem?_set]
  by_cases e : j = i
  · subst e
    by_cases h : j < fl.length
    · simp [h]
    · simp [h]
  · have e' : ¬ i = j := fun z => e z.symm
    simp [e, e']
theorem cell_app {fl : List Int} {v : Int} (i : Nat) : cell (fl ++ [v]) i = if i = fl.length then v else cell fl i := by
  unfold cell
  rw [List.getD_eq_getElem?_getD, List.getD_eq_getElem?_getD, List.getElem?_append]
  by_cases h : i < fl.length
  · have e : ¬ i = fl.length := by omega
    simp [h, e]
  · by_cases e : i = fl.length
    · subst e
      simp
    · have e2 : i - fl.length ≠ 0 := by omega
      obtain ⟨n, hn⟩ := Nat.exists_eq_succ_of_ne_zero e2
      simp [h, e, hn]
/-- numbers of a drawn list -/
def Nn (fl : List Int) : Prop := ∀ i, 0 ≤ cell fl i ∧ cell fl i ≤ 1000000000000
theorem Nn.set {fl : List Int} (h : Nn fl) {j : Nat} {v : Int} (h0 : 0 ≤ v) (h1 : v ≤ 1000000000000) : Nn (fl.set j v) := fun i => by
  rw [cell_set]
  split
  · exact ⟨h0, h1⟩
  · exact h i
theorem Nn.app {fl : List Int} (h : Nn fl) {v : Int} (h0 : 0 ≤ v) (h1 : v ≤ 1000000000000) : Nn (fl ++ [v]) := fun i => by
  rw [cell_app]
  split
  · exact ⟨h0, h1⟩
  · exact h i
theorem none_same {H H' : Hp} {D : Addr} (s : Same H H') (h : H' D = none) : H D = none := by
  cases e : H D with
  | none => rfl
  | some o =>
    rw [s D o e] at h
    cases h
theorem map_setI {fl : List Int} {j : Nat} {v : Int} : (fl.map V.int).set j (V.int v) = (fl.set j v).map V.int := List.map_set.symm
theorem map_appI {fl : List Int} {v : Int} : fl.map V.int ++ [V.int v] = (fl ++ [v]).map V.int := by rw [List.map_append]; rfl
theorem ixN_nat {n : Nat} {i : Int} (j : Nat) (h : j < n) (e : i = j) : ixN n i = some j := by
  subst e
  unfold ixN
  rw [if_pos (by omega), if_pos (by omega)]
  rfl
/-! ### great powers -/
def CP (i j : Int) : Prop := 0 ≤ j ∧ (Builtin.Int.intBits i : Int) * j ≤ 2 ^ 27
theorem CP.of {n : Nat} {i j : Int} (a : Sz n i) (h0 : 0 ≤ j) (h : (n : Int) * j ≤ 2 ^ 27) (hn : 0 < n) : CP i j := by
  refine ⟨h0, Int.le_trans (Int.mul_le_mul_of_nonneg_right ?_ h0) h⟩
  have : Builtin.Int.intBits i ≤ n := by
    unfold Builtin.Int.intBits
    split
    · omega
    · rename_i e
      have := (Nat.log2_lt (n := i.natAbs) (k := n) (by simpa using e)).mpr a.lt
      omega
  exact Int.ofNat_le.mpr this
theorem op_powB {X : Cx} : OpR X (binaryOp .Pow) (rI CP fun i j => .int (i ^ j.toNat)) := opI fun _ _ _ _ _ _ _ hc q => pow_int hc.1 hc.2 q
theorem Sz.pow {m : Nat} {x : Int} (h : Sz m x) (n : Nat) : Sz (m * n + 1) (x ^ n) := ⟨by
  rw [Int.natAbs_pow, Nat.pow_succ, Nat.pow_mul]
  have h1 : x.natAbs ^ n ≤ (2 ^ m) ^ n := Nat.pow_le_pow_left (Nat.le_of_lt h.lt) n
  have h2 : 0 < (2 ^ m) ^ n := Nat.pow_pos (Nat.pow_pos (by decide))
  omega⟩
def leastOf (b : Nat) (k : Int) : Int := 1000000 * ((1 * 2 ^ b) ^ 12 - (k + 1) ^ 12) / (k + 1) ^ 12
def mostOf (b : Nat) (k : Int) : Int := -(1000000 * (k ^ 12 - (1 * 2 ^ b) ^ 12) / k ^ 12)
theorem least_is (b : Nat) {k : Int} (h : 0 ≤ k) : leastOf b k = 1000000 * (2 ^ b) ^ 12 / (k + 1) ^ 12 - 1000000 := by
  have p : (0 : Int) < (k + 1) ^ 12 := Int.pow_pos (by omega)
  unfold leastOf
  rw [Int.one_mul, Int.mul_sub, Int.sub_mul_ediv_right _ _ (Int.ne_of_gt p)]
theorem most_is (b : Nat) {k : Int} (h : 0 < k) : mostOf b k = 0 - (0 - 1000000 * (2 ^ b) ^ 12) / k ^ 12 - 1000000 := by
  have p : (0 : Int) < k ^ 12 := Int.pow_pos h
  unfold mostOf
  rw [Int.one_mul, Int.mul_sub, show 1000000 * k ^ 12 - 1000000 * (2 ^ b) ^ 12 = 0 - 1000000 * (2 ^ b) ^ 12 + 1000000 * k ^ 12 by omega, Int.add_mul_ediv_right _ _ (Int.ne_of_gt p)]
  omega
theorem twelfth (x : Int) : x * x * x * (x * x * x) * (x * x * x * (x * x * x)) = x ^ 12 := by
  simp only [Int.pow_succ, Int.pow_zero, Int.one_mul, Int.mul_assoc]
theorem cut_to {fl : List Int} {n : Nat} (h : n ≤ fl.length) : cutV (fl.map V.int) none (some (n : Int)) = (fl.take n).map V.int := by
  unfold cutV
  have e1 : HT.sIx (fl.map V.int).length 0 none = 0 := rfl
  have e2 : HT.sIx (fl.map V.int).length (fl.map V.int).length (some (n : Int)) = n := by
    rw [List.length_map]
    exact (HT.sIx_nat fl.length _ n).trans (Nat.min_eq_left h)
  rw [e1, e2, List.drop_zero, Nat.sub_zero, List.map_take]
theorem cell_take {fl : List Int} {n i : Nat} : cell (fl.take n) i = if i < n then cell fl i else 0 := by
  unfold cell
  rw [List.getD_eq_getElem?_getD, List.getElem?_take]
  split
  · rw [List.getD_eq_getElem?_getD]
  · rfl
theorem Flows.cut {fl : List Int} (F : Flows fl) (h : 40 < fl.length) {v : Int} (v0 : 1 ≤ v) (v1 : v ≤ 1000000000000) : Flows ((fl.take 40).set 39 v) := by
  have len : ((fl.take 40).set 39 v).length = 40 := by
    rw [List.length_set, List.length_take]
    omega
  have lt : (fl.take 40).length = 40 := by
    rw [List.length_take]
    omega
  have c : ∀ i, cell ((fl.take 40).set 39 v) i = if i = 39 then v else if i < 40 then cell fl i else 0 := fun i => by
    rw [cell_set, cell_take, lt]
    by_cases e : i = 39
    · rw [if_pos ⟨e, by decide⟩, if_pos e]
    · rw [if_neg fun z => e z.1, if_neg e]
  have lo := F.lo
  have ng := F.neg
  refine ⟨by omega, by omega, ?_, ?_, fun i hi => ?_, fun i => ?_, ⟨39, by omega, by omega, ?_⟩⟩
  · rw [c, if_neg (by decide), if_pos (by decide)]
    exact lo
  · rw [c, if_neg (by decide), if_pos (by decide)]
    exact ng
  · rw [c]
    have := F.nn i hi
    split
    · omega
    · split
      · exact this
      · omega
  · rw [c]
    have := F.hi i
    split
    · omega
    · split
      · exact this
      · omega
  · rw [c, if_pos rfl]
    omega
theorem flows_two {a b : Int} (a0 : -1000000000000 ≤ a) (a1 : a < 0) (b0 : 0 < b) (b1 : b ≤ 1000000000000) : Flows [a, b] := by
  have c : ∀ i, cell [a, b] i = if i = 0 then a else if i = 1 then b else 0 := fun i => by
    match i with
    | 0 => rfl
    | 1 => rfl
    | i + 2 => rfl
  refine ⟨Nat.le_refl 2, (by show 2 ≤ 481; decide), a0, a1, fun i hi => ?_, fun i => ?_, ⟨1, by decide, Nat.lt_succ_self 1, b0⟩⟩
  · rw [c, if_neg (by omega)]
    split <;> omega
  · rw [c]
    split
    · omega
    · split <;> omega
def errA (fl : List Int) (b n : Int) : List V := match flowErr fl with
  | some v => [.str "range", .int v]
  | none => if b < 1 ∨ 40 < b then [.str "range", .int b] else [.str "told", .int n]
theorem errA_some {fl : List Int} {v b n : Int} (h : flowErr fl = some v) : errA fl b n = [.str "range", .int v] := by
  unfold errA
  rw [h]
theorem errA_bits {fl : List Int} {b n : Int} (h : flowErr fl = none) (hb : b < 1 ∨ 40 < b) : errA fl b n = [.str "range", .int b] := by
  unfold errA
  rw [h]
  exact if_pos hb
theorem errA_ok {fl : List Int} {b n : Int} (h : flowErr fl = none) (b0 : 1 ≤ b) (b1 : b ≤ 40) : errA fl b n = [.str "told", .int n] := by
  unfold errA
  rw [h]
  exact if_neg (by omega)
theorem errA_two (fl : List Int) (b : Int) : (∃ v, ∀ n, errA fl b n = [.str "range", .int v]) ∨ (∀ n, errA fl b n = [.str "told", .int n]) := by
  cases h : flowErr fl with
  | some v => exact .inl ⟨v, fun n => errA_some h⟩
  | none =>
    by_cases hb : b < 1 ∨ 40 < b
    · exact .inl ⟨b, fun n => errA_bits h hb⟩
    · exact .inr fun n => errA_ok h (by omega) (by omega)
theorem Small.set {fl : List Int} (h : Small fl) {j : Nat} {v : Int} (h0 : -1000000000000 ≤ v) (h1 : v ≤ 1000000000000) : Small (fl.set j v) := fun i => by
  rw [cell_set]
  split
  · exact ⟨h0, h1⟩
  · exact h i
theorem cell_map {fl : List Int} {g : Int → Int} (g0 : g 0 = 0) (i : Nat) : cell (fl.map g) i = g (cell fl i) := by
  unfold cell
  rw [List.getD_eq_getElem?_getD, List.getD_eq_getElem?_getD, List.getElem?_map]
  cases fl[i]? with
  | none => exact g0.symm
  | some z => rfl
def numV : V → Int
  | .int i => i
  | _ => 0
def neg0 (z : Int) : Int := if z < 0 then z else 0
theorem Small.neg0 {fl : List Int} (h : Small fl) : Small (fl.map neg0) := fun i => by
  rw [cell_map rfl]
  have := h i
  unfold LB.neg0
  split <;> omega
theorem small_all {fl : List Int} (h : ∀ z ∈ fl, -1000000000000 ≤ z ∧ z ≤ 1000000000000) : Small fl := fun i => by
  by_cases hi : i < fl.length
  · exact h _ (cell_mem hi)
  · rw [cell_out (by omega)]
    omega
theorem err_len {fl : List Int} (h : fl.length < 2 ∨ 481 < fl.length) : flowErr fl = some (fl.length : Int) := by
  unfold flowErr
  rw [if_pos h]
/-! ### two scales -/
def ho (c : Nat → Int) (x : Int) : Nat → Int
  | 0 => 0
  | t + 1 => ho c x t * x + c t
theorem hor_ho (fl : List Int) (x : Int) (b : Nat) : ∀ t, hor fl x b t = ho (fun t => cell fl (fl.length - 1 - t) * 2 ^ (b * t)) x t
  | 0 => rfl
  | t + 1 => by
    show hor fl x b t * x + _ = ho _ x t * x + _
    rw [hor_ho fl x b t]
theorem ho_sub (c d : Nat → Int) (x : Int) : ∀ t, ho c x t - ho d x t = ho (fun t => c t - d t) x t
  | 0 => rfl
  | t + 1 => by
    show ho c x t * x + c t - (ho d x t * x + d t) = ho (fun t => c t - d t) x t * x + (c t - d t)
    rw [← ho_sub c d x t, Int.sub_mul]
    omega
theorem ho_nn {c : Nat → Int} {x : Int} (hx : 0 ≤ x) : ∀ t, (∀ i, i < t → 0 ≤ c i) → 0 ≤ ho c x t
  | 0, _ => Int.le_refl _
  | t + 1, h => Int.add_nonneg (Int.mul_nonneg (ho_nn hx t fun i hi => h i (by omega)) hx) (h t (by omega))
theorem ho_mono {c : Nat → Int} {x y : Int} (hx : 0 ≤ x) (h : x ≤ y) : ∀ t, (∀ i, i < t → 0 ≤ c i) → ho c x t ≤ ho c y t
  | 0, _ => Int.le_refl _
  | t + 1, hc => by
    have i1 := ho_mono hx h t fun i hi => hc i (by omega)
    have i2 := ho_nn (c := c) hx t fun i hi => hc i (by omega)
    have i3 : ho c x t * x ≤ ho c y t * y := Int.mul_le_mul i1 h hx (Int.le_trans i2 i1)
    exact Int.add_le_add_right i3 _
theorem ho_strict {c : Nat → Int} {x : Int} {n : Nat} (hx : 0 ≤ x) (hc : ∀ i, i < n → 0 ≤ c i) (hn : c n < 0) (h0 : ho c x (n + 1) = 0) : ho c (x + 1) (n + 1) ≠ 0 := by
  intro h1
  have e0 : ho c x n * x + c n = 0 := h0
  have e1 : ho c (x + 1) n * (x + 1) + c n = 0 := h1
  have m := ho_mono (c := c) (x := x) (y := x + 1) hx (by omega) n hc
  have nn := ho_nn (c := c) hx n hc
  have m2 : ho c x n * (x + 1) ≤ ho c (x + 1) n * (x + 1) := Int.mul_le_mul_of_nonneg_right m (by omega)
  rw [Int.mul_add, Int.mul_one] at m2
  have : ho c x n ≠ 0 := fun z => by
    rw [z, Int.zero_mul] at e0
    omega
  omega
theorem hor_scale {fl : List Int} (F : Flows fl) {x : Int} {b : Nat} (hx : 0 ≤ x) : ¬ (hor fl x (b + 1) fl.length = hor fl x b fl.length ∧ hor fl (x + 1) (b + 1) fl.length = hor fl (x + 1) b fl.length) := by
  rintro ⟨h1, h2⟩
  obtain ⟨n, e⟩ : ∃ n, fl.length = n + 1 := ⟨fl.length - 1, by have := F.n2; omega⟩
  have g : ∀ t, (2 : Int) ^ (b * t) ≤ 2 ^ ((b + 1) * t) := fun t => pow_le2 (Nat.mul_le_mul_right t (by omega))
  refine ho_strict (c := fun t => cell fl (fl.length - 1 - t) * 2 ^ ((b + 1) * t) - cell fl (fl.length - 1 - t) * 2 ^ (b * t)) (n := n) hx (fun i hi => ?_) ?_ ?_ ?_
  · show 0 ≤ cell fl (fl.length - 1 - i) * 2 ^ ((b + 1) * i) - cell fl (fl.length - 1 - i) * 2 ^ (b * i)
    rw [← Int.mul_sub]
    exact Int.mul_nonneg (F.nn _ (by omega)) (by have := g i; omega)
  · show cell fl (fl.length - 1 - n) * 2 ^ ((b + 1) * n) - cell fl (fl.length - 1 - n) * 2 ^ (b * n) < 0
    have e2 : fl.length - 1 - n = 0 := by omega
    rw [e2, ← Int.mul_sub]
    refine Int.mul_neg_of_neg_of_pos F.neg ?_
    have h3 : b * n + 1 ≤ (b + 1) * n := by
      have := F.n2
      rw [Nat.succ_mul]
      omega
    have h4 := pow_le2 h3
    rw [Int.pow_succ] at h4
    have := pow_pos2 (b * n)
    omega
  · rw [← ho_sub, ← e, ← hor_ho, ← hor_ho, h1, Int.sub_self]
  · rw [← ho_sub, ← e, ← hor_ho, ← hor_ho, h2, Int.sub_self]
theorem hor_low {fl : List Int} (F : Flows fl) {x : Int} {b : Nat} (hx : 0 ≤ x) (hn : fl.length ≤ 40) (hb : b ≤ 40) (h : hor fl x b fl.length ≤ 0) : (hor fl x b fl.length).natAbs.log2 < 1920 := by
  have m := hor_mono (b := b) F (x := 0) (y := x) (Int.le_refl _) hx fl.length (Nat.le_refl _)
  obtain ⟨n, e⟩ : ∃ n, fl.length = n + 1 := ⟨fl.length - 1, by have := F.n2; omega⟩
  have e0 : hor fl 0 b fl.length = cell fl 0 * 2 ^ (b * n) := by
    rw [e]
    show hor fl 0 b n * 0 + cell fl (fl.length - 1 - n) * 2 ^ (b * n) = _
    have e2 : fl.length - 1 - n = 0 := by omega
    rw [e2, Int.mul_zero, Int.zero_add]
  have s : Sz 1700 (cell fl 0 * 2 ^ (b * n)) := ((F.csz 0).mul (Sz.pow2 (b * n))).mono (by
    have : b * n ≤ 40 * 40 := Nat.mul_le_mul hb (by omega)
    omega)
  rw [← e0] at s
  have s2 : Sz 1700 (hor fl x b fl.length) := s.le (by omega)
  exact Nat.lt_of_le_of_lt s2.log (by decide)
def chk (fl : List Int) : List V → Bool
  | [.int n, .int b, .int lo, .int hi] => decide (0 ≤ n) && (decide (1 ≤ b) && (decide (b ≤ 40) && (decide (lo ≤ 0) && (decide (0 < hi) && (decide (hor fl n b.toNat fl.length = lo) && decide (hor fl (n + 1) b.toNat fl.length = hi))))))
  | _ => false
/-- a part of a proof -/
def partV : V → Bool
  | .int _ => true
  | .str _ => true
  | .non => true
  | _ => false
structure BadI (fl : List Int) (v0 v1 v2 v3 : V) : Prop where
  k0 : partV v0 = true
  k1 : partV v1 = true
  k2 : partV v2 = true
  k3 : partV v3 = true
  sz : ∀ n, v0 = .int n → Sz 199 n
  no : chk fl [v0, v1, v2, v3] = false
theorem bad_int {fl : List Int} {n b lo hi : Int} (s : Sz 199 n) (h : ¬ (0 ≤ n ∧ 1 ≤ b ∧ b ≤ 40 ∧ lo ≤ 0 ∧ 0 < hi ∧ hor fl n b.toNat fl.length = lo ∧ hor fl (n + 1) b.toNat fl.length = hi)) : BadI fl (.int n) (.int b) (.int lo) (.int hi) := by
  refine ⟨rfl, rfl, rfl, rfl, fun m e => by cases e; exact s, ?_⟩
  rw [Bool.eq_false_iff]
  intro c
  refine h ?_
  simpa only [chk, Bool.and_eq_true, decide_eq_true_eq] using c
theorem chk_ok {fl : List Int} {k b : Int} (h : Place fl b.toNat k) (b0 : 1 ≤ b) (b1 : b ≤ 40) : chk fl [.int k, .int b, .int (hor fl k b.toNat fl.length), .int (hor fl (k + 1) b.toNat fl.length)] = true := by
  simp only [chk, Bool.and_eq_true, decide_eq_true_eq]
  exact ⟨h.1, b0, b1, h.2.1, h.2.2, trivial, trivial⟩
def BadP (K : PySem.W.Frag) (fl : List Int) (H : Hp) (v : V) : Prop := ∃ p v0 v1 v2 v3, v = .ref p ∧ SqT K H p [v0, v1, v2, v3] ∧ BadI fl v0 v1 v2 v3
theorem tup_set {K : PySem.W.Frag} {H : Hp} {a D : Addr} {xs ys : List V} {o : HO} (h : SqT K H a xs) (e : H D = some (.lst ys)) : SqT K (upd H D o) a xs := by
  rcases h with (h | ⟨u, h⟩) | h
  · refine .inl (.inl ((upd_ne fun z => ?_).trans h))
    rw [z, e] at h
    cases h
  · refine .inl (.inr ⟨u, (upd_ne fun z => ?_).trans h⟩)
    rw [z, e] at h
    cases h
  · exact .inr h
theorem bads_app {K : PySem.W.Frag} {fl : List Int} {H : Hp} {D p : Addr} {refs : List V} {v0 v1 v2 v3 : V} (hb : ∀ v ∈ refs, BadP K fl H v) (hp : H p = none) (hD : H D = some (.lst refs)) (n : BadI fl v0 v1 v2 v3) :
    ∀ v ∈ refs ++ [.ref p], BadP K fl (upd (upd H p (.tup [v0, v1, v2, v3])) D (.lst (refs ++ [.ref p]))) v := by
  have hD2 := hp_upd (o' := .tup [v0, v1, v2, v3]) hp hD
  intro v hv
  rw [List.mem_append, List.mem_singleton] at hv
  rcases hv with hv | rfl
  · obtain ⟨q, a, b, c, d, rfl, t, i⟩ := hb v hv
    exact ⟨q, a, b, c, d, rfl, tup_set (tup_upd hp t) hD2, i⟩
  · exact ⟨p, v0, v1, v2, v3, rfl, tup_set (t_of upd_same) hD2, n⟩
end LB

namespace My
open PySem PySem.Spec PyProof.Rows L2 LB
local macro_rules | `(tactic| walk_at "sz") => `(tactic| first
  | assumption
  | ((with_reducible apply Sz.mul) <;> walk_at "sz") | ((with_reducible apply Sz.add) <;> walk_at "sz") | ((with_reducible apply Sz.sub) <;> walk_at "sz") | ((with_reducible apply Sz.neg) <;> walk_at "sz")
  | exact Sz.mk (n := 64) (by omega) | exact Sz.mk (n := 201) (by omega) | ((with_reducible apply Sz.div) <;> walk_at "sz") | (with_reducible exact cell_sz (by assumption) _))
local macro_rules | `(tactic| walk_at "cond") => `(tactic| first
  | ((show (0 : Int) < _); first | decide | omega)
  | assumption
  | exact (True.intro : any1 _)
  | exact ty_s
  | ((with_reducible apply ty_l); (walk_at "sq")) | ((with_reducible apply ty_d); (walk_at "hp"))
  | ((with_reducible apply CM.of2) <;> first | walk_at "sz" | decide)
  | ((with_reducible apply CD.of2) <;> first | walk_at "sz" | decide | omega)
  | (with_reducible exact ⟨by decide, by decide, by decide⟩))
local macro_rules | `(tactic| walk_at "len") => `(tactic| first | assumption | exact Nat.lt_of_succ_le (Nat.le_of_ble_eq_true (by rfl)))
local macro_rules | `(tactic| walk_at "hp") => `(tactic| first | assumption | exact upd_same | ((with_reducible apply hp_upd) <;> (walk_at "hp")))
local macro_rules | `(tactic| walk_at "sq0") => `(tactic| first | assumption | exact l_of upd_same | exact t_of upd_same | (apply l_of; (assumption)) | (apply t_of; (assumption)) | walk_at "sqc")
local macro_rules | `(tactic| walk_at "sq1") => `(tactic| first | walk_at "sq0" | (apply lst_upd; (assumption); (walk_at "sq0")) | (apply tup_upd; (assumption); (walk_at "sq0")))
local macro_rules | `(tactic| walk_at "sq2") => `(tactic| first | walk_at "sq0" | (apply lst_upd; (assumption); (walk_at "sq1")) | (apply tup_upd; (assumption); (walk_at "sq1")))
local macro_rules | `(tactic| walk_at "sq3") => `(tactic| first | walk_at "sq0" | (apply lst_upd; (assumption); (walk_at "sq2")) | (apply tup_upd; (assumption); (walk_at "sq2")))
local macro_rules | `(tactic| walk_at "sq4") => `(tactic| first | walk_at "sq0" | (apply lst_upd; (assumption); (walk_at "sq3")) | (apply tup_upd; (assumption); (walk_at "sq3")))
local macro_rules | `(tactic| walk_at "sq5") => `(tactic| first | walk_at "sq0" | (apply lst_upd; (assumption); (walk_at "sq4")) | (apply tup_upd; (assumption); (walk_at "sq4")))
local macro_rules | `(tactic| walk_at "sq6") => `(tactic| first | walk_at "sq0" | (apply lst_upd; (assumption); (walk_at "sq5")) | (apply tup_upd; (assumption); (walk_at "sq5")))
local macro_rules | `(tactic| walk_at "sq7") => `(tactic| first | walk_at "sq0" | (apply lst_upd; (assumption); (walk_at "sq6")) | (apply tup_upd; (assumption); (walk_at "sq6")))
local macro_rules | `(tactic| walk_at "sq8") => `(tactic| first | walk_at "sq0" | (apply lst_upd; (assumption); (walk_at "sq7")) | (apply tup_upd; (assumption); (walk_at "sq7")))
local macro_rules | `(tactic| walk_at "sq") => `(tactic| walk_at "sq8")
local macro_rules | `(tactic| walk_at "rd1") => `(tactic| first
  | refine ⟨_, rfl, ?_⟩
  | refine ⟨_, _, rfl, rfl, ?_⟩
  | refine ⟨rfl, ?_⟩
  | refine .inl ⟨_, rfl, ?_⟩
  | refine .inr ⟨_, rfl, ?_⟩
  | (with_reducible refine tC_go ?_) | (with_reducible refine tNoPart_go ?_)
  | walk_at "call"
  | (apply ixT_go; (walk_at "sq"); (first | assumption | rfl))
  | (apply ixL_go; (walk_at "sq"); (first | assumption | rfl))
  | (apply ixUT_go; (walk_at "sq"); (first | assumption | rfl))
  | (apply ixUL_go; (walk_at "sq"); (first | assumption | rfl))
  | (apply And.intro; (walk_at "cond"))
  | (apply And.intro; (exact Nat.le_of_ble_eq_true (by rfl)); (intro p hp))
  | refine ⟨_, _, _, rfl, (by walk_at "hp"), (by rfl), ?_⟩
  | ((with_reducible apply gTup_go); (walk_at "sq"); (exact rfl))
  | (apply lo_l; (walk_at "sq"); (intro p hp)) | (apply lo_t; (walk_at "sq"); (intro p hp))
  | (apply mn_go) | (apply mx_go) | (apply isB_go) | (apply notB_go)
  | (apply setL_go; (walk_at "hp"); (first | assumption | exact rfl))
  | ((with_reducible apply slL_go); (walk_at "sq"); (intro p hp))
  | (apply inT_go; (walk_at "sq"); (exact rfl); (first | assumption | exact rfl)) | (apply inL_go; (walk_at "sq"); (exact rfl); (first | assumption | exact rfl))
  | (apply niT_go; (walk_at "sq"); (exact rfl); (first | assumption | exact rfl)) | (apply niL_go; (walk_at "sq"); (exact rfl); (first | assumption | exact rfl))
  | (apply app_go; (walk_at "hp"); (walk_at "len"))
  | (apply ln_t; (walk_at "sq")) | (apply ln_l; (walk_at "sq"))
  | (apply iteLen; (with_reducible rfl)) | (apply iteLenN; (with_reducible rfl)) | (apply iteLen; (exact rfl)) | (apply iteLenN; (exact rfl))
  | refine iteT ?_
  | refine iteF ?_
  | (apply isi_go (r := true); (first | exact .base (.int _) | exact .base (.str _) | exact .base (.bl _) | exact .base .non | exact tyx_t (by walk_at "sq") | exact tyx_l (by walk_at "sq")); (decide +kernel))
  | (apply isi_go (r := false); (first | exact .base (.int _) | exact .base (.str _) | exact .base (.bl _) | exact .base .non | exact tyx_t (by walk_at "sq") | exact tyx_l (by walk_at "sq")); (decide +kernel))
  | (apply isX_go; (walk_at "kit"); (walk_at "hp")) | (apply isX_ve; (walk_at "exv"); (walk_at "hp"))
  | (apply gTup_go; (walk_at "sq"); (exact rfl)) | (apply gCons_go) | (apply gNil_go))
local macro_rules | `(tactic| walk_at "rd") => `(tactic| repeat (walk_at "rd1"))

local macro_rules | `(tactic| walk_at "br1") => `(tactic| first
  | refine iteI (fun h => ?_) (fun h => ?_) | refine iteIN (fun h => ?_) (fun h => ?_)
  | refine iteS (fun h => ?_) (fun h => ?_) | refine iteSN (fun h => ?_) (fun h => ?_)
  | refine iteD (fun h => ?_) (fun h => ?_) | refine iteDN (fun h => ?_) (fun h => ?_))
local macro_rules | `(tactic| walk_at "go") => `(tactic| repeat' (first | walk_at "rd1" | walk_at "br1"))
local macro_rules | `(tactic| walk_at "sm0") => `(tactic| first | exact Same.refl _ | assumption)
local macro_rules | `(tactic| walk_at "sm1") => `(tactic| first | walk_at "sm0" | (apply same_new; (walk_at "sm0"); (assumption)) | (refine Same.trans ?_ (by assumption); (walk_at "sm0")))
local macro_rules | `(tactic| walk_at "sm2") => `(tactic| first | walk_at "sm0" | (apply same_new; (walk_at "sm1"); (assumption)) | (refine Same.trans ?_ (by assumption); (walk_at "sm1")))
local macro_rules | `(tactic| walk_at "sm3") => `(tactic| first | walk_at "sm0" | (apply same_new; (walk_at "sm2"); (assumption)) | (refine Same.trans ?_ (by assumption); (walk_at "sm2")))
local macro_rules | `(tactic| walk_at "sm4") => `(tactic| first | walk_at "sm0" | (apply same_new; (walk_at "sm3"); (assumption)) | (refine Same.trans ?_ (by assumption); (walk_at "sm3")))
local macro_rules | `(tactic| walk_at "sm5") => `(tactic| first | walk_at "sm0" | (apply same_new; (walk_at "sm4"); (assumption)) | (refine Same.trans ?_ (by assumption); (walk_at "sm4")))
local macro_rules | `(tactic| walk_at "sm6") => `(tactic| first | walk_at "sm0" | (apply same_new; (walk_at "sm5"); (assumption)) | (refine Same.trans ?_ (by assumption); (walk_at "sm5")))
local macro_rules | `(tactic| walk_at "sm") => `(tactic| walk_at "sm6")

local macro_rules | `(tactic| walk_at "rx") => `(tactic| (dsimp only [tC]; walk_at "rd"))

abbrev P : Program := PySem.Challenge.pw_lendbook_k67_factor_proofs_are_judged
def top (i : Nat) : Stmt := PySem.Challenge.pw_lendbook_k67_factor_proofs_are_judged.main.body.getD i (.Pass ⟨0, 0, 0, 0⟩)
abbrev s_check_flows : Stmt := top 6
abbrev s_scaled_sum : Stmt := top 7
abbrev s_check_factor : Stmt := top 8
abbrev s__law_cell : Stmt := top 10
abbrev s__law_draw : Stmt := top 11
abbrev s__law_two_to : Stmt := top 12
abbrev s__law_sum_at : Stmt := top 13
abbrev s__law_flows : Stmt := top 14
abbrev s__law_place : Stmt := top 15
abbrev s_law : Stmt := top 16
theorem sc_check_flows : FnScope ["flows", "flow"] ["flows"] (defScope s_check_flows) := ⟨rfl, rfl, rfl, by decide +kernel, rfl, by decide +kernel, by decide +kernel⟩
theorem sc_scaled_sum : FnScope ["flows", "numerator", "bits", "last", "total", "month"] ["flows", "numerator", "bits"] (defScope s_scaled_sum) := ⟨rfl, rfl, rfl, by decide +kernel, rfl, by decide +kernel, by decide +kernel⟩
theorem sc_check_factor : FnScope ["flows", "proof", "part", "numerator", "bits", "low", "high"] ["flows", "proof"] (defScope s_check_factor) := ⟨rfl, rfl, rfl, by decide +kernel, rfl, by decide +kernel, by decide +kernel⟩
theorem sc__law_cell : FnScope ["script", "k"] ["script", "k"] (defScope s__law_cell) := ⟨rfl, rfl, rfl, by decide +kernel, rfl, by decide +kernel, by decide +kernel⟩
theorem sc__law_draw : FnScope ["cell", "limits", "row", "rest", "great", "k", "mixed"] ["cell", "limits"] (defScope s__law_draw) := ⟨rfl, rfl, rfl, by decide +kernel, rfl, by decide +kernel, by decide +kernel⟩
theorem sc__law_two_to : FnScope ["bits", "value", "k"] ["bits"] (defScope s__law_two_to) := ⟨rfl, rfl, rfl, by decide +kernel, rfl, by decide +kernel, by decide +kernel⟩
theorem sc__law_sum_at : FnScope ["flows", "place", "bits", "last", "step", "scale", "value", "k"] ["flows", "place", "bits"] (defScope s__law_sum_at) := ⟨rfl, rfl, rfl, by decide +kernel, rfl, by decide +kernel, by decide +kernel⟩
theorem sc__law_flows : FnScope ["script", "size", "limit", "flows", "k"] ["script"] (defScope s__law_flows) := ⟨rfl, rfl, rfl, by decide +kernel, rfl, by decide +kernel, by decide +kernel⟩
theorem sc__law_place : FnScope ["flows", "bits", "high", "k", "low", "middle"] ["flows", "bits"] (defScope s__law_place) := ⟨rfl, rfl, rfl, by decide +kernel, rfl, by decide +kernel, by decide +kernel⟩
theorem sc_law : FnScope ["script", "flows", "bits", "k", "low", "high", "by", "wrong", "proof", "more", "place", "other"] ["script"] (defScope s_law) := ⟨rfl, rfl, rfl, by decide +kernel, rfl, by decide +kernel, by decide +kernel⟩
abbrev s_OutOfRange : Stmt := inClass (top 2) 0
structure Txt (K : PySem.W.Frag) (mg : Str → Option Value) : Type where
  a_check_flows : Addr
  fd_check_flows : FuncData
  F_check_flows : FunD K "check_flows" "check_flows" (defArgs s_check_flows) (defBody s_check_flows) (defScope s_check_flows) [] [] a_check_flows fd_check_flows
  m_check_flows : mg "check_flows" = some (.ref a_check_flows)
  b_check_flows : Binds K fd_check_flows ["flows"] []
  a_scaled_sum : Addr
  fd_scaled_sum : FuncData
  F_scaled_sum : FunD K "scaled_sum" "scaled_sum" (defArgs s_scaled_sum) (defBody s_scaled_sum) (defScope s_scaled_sum) [] [] a_scaled_sum fd_scaled_sum
  m_scaled_sum : mg "scaled_sum" = some (.ref a_scaled_sum)
  b_scaled_sum : Binds K fd_scaled_sum ["flows", "numerator", "bits"] []
  a_check_factor : Addr
  fd_check_factor : FuncData
  F_check_factor : FunD K "check_factor" "check_factor" (defArgs s_check_factor) (defBody s_check_factor) (defScope s_check_factor) [] [] a_check_factor fd_check_factor
  m_check_factor : mg "check_factor" = some (.ref a_check_factor)
  b_check_factor : Binds K fd_check_factor ["flows", "proof"] []
  a__law_cell : Addr
  fd__law_cell : FuncData
  F__law_cell : FunD K "_law_cell" "_law_cell" (defArgs s__law_cell) (defBody s__law_cell) (defScope s__law_cell) [] [] a__law_cell fd__law_cell
  m__law_cell : mg "_law_cell" = some (.ref a__law_cell)
  b__law_cell : Binds K fd__law_cell ["script", "k"] []
  a__law_draw : Addr
  fd__law_draw : FuncData
  F__law_draw : FunD K "_law_draw" "_law_draw" (defArgs s__law_draw) (defBody s__law_draw) (defScope s__law_draw) [] [] a__law_draw fd__law_draw
  m__law_draw : mg "_law_draw" = some (.ref a__law_draw)
  b__law_draw : Binds K fd__law_draw ["cell", "limits"] []
  a__law_two_to : Addr
  fd__law_two_to : FuncData
  F__law_two_to : FunD K "_law_two_to" "_law_two_to" (defArgs s__law_two_to) (defBody s__law_two_to) (defScope s__law_two_to) [] [] a__law_two_to fd__law_two_to
  m__law_two_to : mg "_law_two_to" = some (.ref a__law_two_to)
  b__law_two_to : Binds K fd__law_two_to ["bits"] []
  a__law_sum_at : Addr
  fd__law_sum_at : FuncData
  F__law_sum_at : FunD K "_law_sum_at" "_law_sum_at" (defArgs s__law_sum_at) (defBody s__law_sum_at) (defScope s__law_sum_at) [] [] a__law_sum_at fd__law_sum_at
  m__law_sum_at : mg "_law_sum_at" = some (.ref a__law_sum_at)
  b__law_sum_at : Binds K fd__law_sum_at ["flows", "place", "bits"] []
  a__law_flows : Addr
  fd__law_flows : FuncData
  F__law_flows : FunD K "_law_flows" "_law_flows" (defArgs s__law_flows) (defBody s__law_flows) (defScope s__law_flows) [] [] a__law_flows fd__law_flows
  m__law_flows : mg "_law_flows" = some (.ref a__law_flows)
  b__law_flows : Binds K fd__law_flows ["script"] []
  a__law_place : Addr
  fd__law_place : FuncData
  F__law_place : FunD K "_law_place" "_law_place" (defArgs s__law_place) (defBody s__law_place) (defScope s__law_place) [] [] a__law_place fd__law_place
  m__law_place : mg "_law_place" = some (.ref a__law_place)
  b__law_place : Binds K fd__law_place ["flows", "bits"] []
  a_law : Addr
  fd_law : FuncData
  F_law : FunD K "law" "law" (defArgs s_law) (defBody s_law) (defScope s_law) [] [] a_law fd_law
  m_law : mg "law" = some (.ref a_law)
  b_law : Binds K fd_law ["script"] []
  c_BookError : Addr
  m_BookError : mg "BookError" = some (.ref c_BookError)
  e_BookError : ECls K c_BookError
  c_OutOfRange : Addr
  m_OutOfRange : mg "OutOfRange" = some (.ref c_OutOfRange)
  e_OutOfRange : ECls K c_OutOfRange
  x_OutOfRange : XTxt P K mg "OutOfRange.__init__" s_OutOfRange c_OutOfRange
  n_OutOfRange_label : PySem.W.findIn K (.ref c_OutOfRange) "label" = some none
  n_OutOfRange_value : PySem.W.findIn K (.ref c_OutOfRange) "value" = some none
  y_BookError_BookError : PySem.W.subIn K (.ref c_BookError) (.ref c_BookError) = some true
  y_BookError_OutOfRange : PySem.W.subIn K (.ref c_BookError) (.ref c_OutOfRange) = some false
  yv_BookError : PySem.W.subIn K (.ref c_BookError) (.type "ValueError") = some true
  y_OutOfRange_BookError : PySem.W.subIn K (.ref c_OutOfRange) (.ref c_BookError) = some true
  y_OutOfRange_OutOfRange : PySem.W.subIn K (.ref c_OutOfRange) (.ref c_OutOfRange) = some true
  yv_OutOfRange : PySem.W.subIn K (.ref c_OutOfRange) (.type "ValueError") = some true
  m_MOST_FLOWS : ∃ t, mg "MOST_FLOWS" = some (.int 481 t)
  m_MOST_BITS : ∃ t, mg "MOST_BITS" = some (.int 40 t)
  z_max : mg "max" = none
  z_len : mg "len" = none
  z_range : mg "range" = none
  z_isinstance : mg "isinstance" = none
  z_bool : mg "bool" = none
  z_int : mg "int" = none
  z_abs : mg "abs" = none
  z_min : mg "min" = none
  z_list : mg "list" = none
  z_str : mg "str" = none
section
variable {w : World} {K : PySem.W.Frag} {mg : Str → Option Value} {base : Heap}
theorem kit_BookError_BookError (T : Txt K mg) : PySem.W.kitOne K (.ref T.c_BookError) (.ref T.c_BookError) = some true := T.e_BookError.kit T.y_BookError_BookError
theorem exm_BookError_BookError (T : Txt K mg) : PySem.W.exmOne K (.ref T.c_BookError) (.ref T.c_BookError) = some true := T.e_BookError.exm T.y_BookError_BookError
theorem kit_BookError_OutOfRange (T : Txt K mg) : PySem.W.kitOne K (.ref T.c_BookError) (.ref T.c_OutOfRange) = some false := T.e_OutOfRange.kit T.y_BookError_OutOfRange
theorem exm_BookError_OutOfRange (T : Txt K mg) : PySem.W.exmOne K (.ref T.c_BookError) (.ref T.c_OutOfRange) = some false := T.e_OutOfRange.exm T.y_BookError_OutOfRange
theorem kit_OutOfRange_BookError (T : Txt K mg) : PySem.W.kitOne K (.ref T.c_OutOfRange) (.ref T.c_BookError) = some true := T.e_BookError.kit T.y_OutOfRange_BookError
theorem exm_OutOfRange_BookError (T : Txt K mg) : PySem.W.exmOne K (.ref T.c_OutOfRange) (.ref T.c_BookError) = some true := T.e_BookError.exm T.y_OutOfRange_BookError
theorem kit_OutOfRange_OutOfRange (T : Txt K mg) : PySem.W.kitOne K (.ref T.c_OutOfRange) (.ref T.c_OutOfRange) = some true := T.e_OutOfRange.kit T.y_OutOfRange_OutOfRange
theorem exm_OutOfRange_OutOfRange (T : Txt K mg) : PySem.W.exmOne K (.ref T.c_OutOfRange) (.ref T.c_OutOfRange) = some true := T.e_OutOfRange.exm T.y_OutOfRange_OutOfRange
local macro_rules | `(tactic| walk_at "kit") => `(tactic| first | exact kit_BookError_BookError (by assumption) | exact kit_BookError_OutOfRange (by assumption) | exact kit_OutOfRange_BookError (by assumption) | exact kit_OutOfRange_OutOfRange (by assumption))
local macro_rules | `(tactic| walk_at "exm") => `(tactic| first | exact exm_BookError_BookError (by assumption) | exact exm_BookError_OutOfRange (by assumption) | exact exm_OutOfRange_BookError (by assumption) | exact exm_OutOfRange_OutOfRange (by assumption))
local macro_rules | `(tactic| walk_at "exv") => `(tactic| first | exact Txt.yv_BookError (by assumption) | exact Txt.yv_OutOfRange (by assumption))
def f_OutOfRange : List V → List (Str × V) := fs1 "OutOfRange" "value"
theorem okx_OutOfRange (T : Txt K mg) : ExcOk P w K mg base T.c_OutOfRange any1 f_OutOfRange 1 := by
  refine T.x_OutOfRange.ok (N := ["self", "value", "__class__"]) (ps := ["value"]) rfl rfl (NdefX.nscope_by (by decide +kernel)) rfl rfl (fun _ _ _ _ _ us hl => match us, hl with | [_, _], _ => rfl) (fun _ _ _ _ => rfl) (fun _ _ _ _ => rfl) (fun _ _ _ _ => rfl) (fun _ _ _ _ => ⟨_, rfl⟩) fun X cc cda fI L hK hN hE hO => ?_
  obtain ⟨_, _, _, _, _, _, _, _, _, _, _, _, _, _, _, _, _⟩ := X
  dsimp only at hK hN hE
  subst hK hN hE
  refine ⟨_, _, pa_cons pe_str pa_nil, pss_cons (ps_ost (pv 0) pe_str) (pss_one (ps_ost (pv 0) (pv 1))), fun a xs H Q hl ea hc q => ?_⟩
  obtain ⟨v, rfl⟩ : ∃ v, xs = [v] := match xs, hl with | [v], _ => ⟨v, rfl⟩
  exact ⟨(by show 1 ≤ 1000; decide), ea, two_stores hO T.n_OutOfRange_label T.n_OutOfRange_value ea (fun _ _ k => k) (fun _ _ k => ⟨_, rfl, k⟩) (fun _ _ k => ⟨_, rfl, k⟩) (fun _ _ k => ⟨_, rfl, k⟩) (fun d H' h1 h2 h3 h4 h5 => q d H' h1 h2 h3 h4 h5)⟩
/-! ### _law_draw -/
/-- the size of a number -/
def ab (c : Int) : Int := if c < 0 then -c else c
theorem ab_nn (c : Int) : 0 ≤ ab c := by unfold ab; split <;> omega
/-- the rest before the i-th limit -/
def dRest (c : Int) (ls : List Int) : Nat → Int
  | 0 => ab c
  | i + 1 => if 1000000000000000000 ≤ ab c ∧ ls.getD i 0 ≤ dRest c ls i then dRest c ls i / ls.getD i 0 else dRest c ls i
def dMix (c : Int) (i : Nat) : Int := ((ab c * 48271 + (0 + (i : Int) + 1) * 69621) % 2147483647 * 16807 + (0 + (i : Int) + 1) * 40692) % 2147483399
/-- the i-th number drawn -/
def dVal (c : Int) (ls : List Int) (i : Nat) : Int :=
  if 1000000000000000000 ≤ ab c ∧ ls.getD i 0 ≤ dRest c ls i then dRest c ls i % ls.getD i 0 else dMix c i % ls.getD i 0
def draw (c : Int) (ls : List Int) : List Int := (List.range ls.length).map (dVal c ls)
theorem dVal_nn (c : Int) (ls : List Int) (i : Nat) (h : 0 < ls.getD i 0) : 0 ≤ dVal c ls i ∧ dVal c ls i < ls.getD i 0 := by
  unfold dVal
  by_cases hh : 1000000000000000000 ≤ ab c ∧ ls.getD i 0 ≤ dRest c ls i
  · rw [if_pos hh]
    exact ⟨Int.emod_nonneg _ (by omega), Int.emod_lt_of_pos _ h⟩
  · rw [if_neg hh]
    exact ⟨Int.emod_nonneg _ (by omega), Int.emod_lt_of_pos _ h⟩
theorem dRest_sz {c : Int} (ls : List Int) (h : Sz 1048576 c) : ∀ i, Sz 1048576 (dRest c ls i)
  | 0 => h.absv
  | i + 1 => by
    unfold dRest
    by_cases hh : 1000000000000000000 ≤ ab c ∧ ls.getD i 0 ≤ dRest c ls i
    · rw [if_pos hh]; exact (dRest_sz ls h i).div
    · rw [if_neg hh]; exact dRest_sz ls h i
theorem dRest_nn (c : Int) (ls : List Int) (h : ∀ z ∈ ls, 0 < z) : ∀ i, 0 ≤ dRest c ls i
  | 0 => ab_nn c
  | i + 1 => by
    have ih := dRest_nn c ls h i
    unfold dRest
    by_cases hh : 1000000000000000000 ≤ ab c ∧ ls.getD i 0 ≤ dRest c ls i
    · rw [if_pos hh, List.getD_eq_getElem?_getD]
      cases e : ls[i]? with
      | none => simp
      | some z => exact Int.ediv_nonneg ih (Int.le_of_lt (h z (List.mem_of_getElem? e)))
    · rw [if_neg hh]; exact ih
@[irreducible] def sp__law_draw (K : PySem.W.Frag) : Sp := fun vs H Q _ => ∃ (c : Int) (p : Addr) (ls : List Int), vs = [.int c, .ref p] ∧ SqL K H p (ls.map V.int) ∧ Sz 1048576 c ∧ (∀ z ∈ ls, 0 < z ∧ Sz 64 z) ∧ ls.length ≤ 1000 ∧
  ∀ r H', Same H H' → H r = none → H' r = some (.lst ((draw c ls).map V.int)) → Q (.ref r) H'
theorem ok__law_draw (T : Txt K mg) : FnOk P w K mg base (L2.CX P w) 1 T.a__law_draw T.fd__law_draw ["cell", "limits"] (sp__law_draw K) := by
  refine T.F__law_draw.ok sc__law_draw (fun vs H Q E h => ?_) (fun cdv A outer s H vs Q E hr h => ?_)
  · unfold sp__law_draw at h
    obtain ⟨c, p, ls, rfl, _⟩ := h
    rfl
  · unfold sp__law_draw at h
    obtain ⟨c, p, ls, rfl, hp, hc, hl, hn, q⟩ := h
    refine ⟨_, (pss_cons (ps_set (i := 2) sc__law_draw.nd rfl (Or.inl rfl) (pe_lst pa_nil))
    (pss_cons (ps_set (i := 3) sc__law_draw.nd rfl (Or.inl rfl) (pe_callB call_abs rfl T.z_abs bt_abs (pa_cons (pv 0) pa_nil)))
    (pss_cons (ps_set (i := 4) sc__law_draw.nd rfl (Or.inl rfl) (pe_cmpR op_ge (pv 3) pe_int (nomark _)))
    (pss_cons (ps_for (passes_of rfl) rfl (pi_range1 rfl T.z_range (pa_cons (pe_callB call_ln rfl T.z_len bt_len (pa_cons (pv 1) pa_nil)) pa_nil)) (pg_name (i := 5) sc__law_draw.nd rfl (Or.inl rfl))
      (pss_one (ps_if (PW.pt (pw_and (pt_val (pv 4)) (pw_and1 (pt_cmpR op_ge (pv 3) (pe_ix ix_list (pv 1) (pv 5) (fun _ _ => rfl)) (nomark _))))) (pss_cons (ps_expr (pe_bm PySem.F.plainAttrs_list PySem.F.slot_list_append PySem.F.type_list_append mt_app (pv 2) (pa_cons (pe_op op_mod (pe_callTy call_int1 rfl T.z_int bt_int (pa_cons (pv 3) pa_nil)) (pe_ix ix_list (pv 1) (pv 5) (fun _ _ => rfl))) pa_nil)))
        (pss_one (ps_set (i := 3) sc__law_draw.nd rfl (Or.inl rfl) (pe_op op_fdivB (pv 3) (pe_ix ix_list (pv 1) (pv 5) (fun _ _ => rfl)))))) (pss_cons (ps_set (i := 6) sc__law_draw.nd rfl (Or.inl rfl) (pe_op op_mod (pe_callTy call_int1 rfl T.z_int bt_int (pa_cons (pe_op op_add (pe_op op_mulB (pe_callB call_abs rfl T.z_abs bt_abs (pa_cons (pv 0) pa_nil)) pe_int) (pe_op op_mulB (pe_op op_add (pv 5) pe_int) pe_int)) pa_nil)) pe_int))
        (pss_cons (ps_set (i := 6) sc__law_draw.nd rfl (Or.inl rfl) (pe_op op_mod (pe_callTy call_int1 rfl T.z_int bt_int (pa_cons (pe_op op_add (pe_op op_mulB (pv 6) pe_int) (pe_op op_mulB (pe_op op_add (pv 5) pe_int) pe_int)) pa_nil)) pe_int))
        (pss_one (ps_expr (pe_bm PySem.F.plainAttrs_list PySem.F.slot_list_append PySem.F.type_list_append mt_app (pv 2) (pa_cons (pe_op op_mod (pe_callTy call_int1 rfl T.z_int bt_int (pa_cons (pv 6) pa_nil)) (pe_ix ix_list (pv 1) (pv 5) (fun _ _ => rfl))) pa_nil)))))))))
    (pss_one (ps_ret (pv 2))))))), ?_⟩
    walk_at "rd"
    rename_i r nr
    rw [map_len]
    have hpos : ∀ i, i < ls.length → 0 < ls.getD i 0 ∧ Sz 64 (ls.getD i 0) := fun i hi => by
      rw [List.getD_eq_getElem?_getD, List.getElem?_eq_getElem hi]
      exact hl _ (List.getElem_mem hi)
    refine ⟨by omega, by omega, for_range (n := ls.length) (fun i σ H' => ∃ k m : Option V, σ = [some (.int c), some (.ref p), some (.ref r), some (.int (dRest c ls i)), some (.bl (decide (1000000000000000000 ≤ ab c))), k, m] ∧ Same H H' ∧ H' r = some (.lst (((List.range i).map (dVal c ls)).map V.int)))
      ⟨none, none, rfl, same_new (Same.refl H) nr, upd_same⟩ ?_ ?_⟩
    · rintro i σ H' hi ⟨k, m, rfl, s1, e1⟩
      have hp' := same_lst s1 hp
      have hx := hpos i hi
      have hle : i < 1000 := by omega
      have hzr := dRest_sz ls hc i
      have hab : Sz 1048576 (if c < 0 then -c else c) := hc.absv
      have hmi : Sz 64 (dMix c i) := ⟨by unfold dMix; omega⟩
      walk_at "rd"
      have hlen : (((List.range i).map (dVal c ls)).map V.int).length < sizeLine := by
        rw [List.length_map, List.length_map, List.length_range, sizeLine_eq]
        omega
      have hi62 : Sz 12 (0 + (i : Int)) := ⟨by omega⟩
      have fin : ∀ (y ρ : Int) (k' m' : Option V), dVal c ls i = y → dRest c ls (i + 1) = ρ → ∃ k'' m'' : Option V, [some (V.int c), some (.ref p), some (.ref r), some (.int ρ), some (.bl (decide (1000000000000000000 ≤ ab c))), k', m'] = [some (.int c), some (.ref p), some (.ref r), some (.int (dRest c ls (i + 1))), some (.bl (decide (1000000000000000000 ≤ ab c))), k'', m''] ∧ Same H (upd H' r (.lst (((List.range i).map (dVal c ls)).map V.int ++ [.int y]))) ∧ upd H' r (.lst (((List.range i).map (dVal c ls)).map V.int ++ [.int y])) r = some (.lst (((List.range (i + 1)).map (dVal c ls)).map V.int)) := fun y ρ k' m' e1 e2 =>
        ⟨k', m', by rw [e2], same_set s1 nr, by rw [upd_same, range_snoc e1]⟩
      have hix : atI (ls.map V.int) (0 + ((i : Nat) : Int)) = some (V.int (ls.getD i 0)) := atI_map hi
      have hx1 := hx.1
      have hx2 := hx.2
      refine iteD (fun hg => ?_) (fun hg => ?_)
      · walk_at "rd"
        refine iteD (fun hge => ?_) (fun hge => ?_)
        · have a1 : dVal c ls i = dRest c ls i % ls.getD i 0 := if_pos ⟨hg, hge⟩
          have a2 : dRest c ls (i + 1) = dRest c ls i / ls.getD i 0 := if_pos ⟨hg, hge⟩
          have cd := CD.of (i := dRest c ls i) hx.1 hx.2
          have hp'' := same_lst (same_set (o := .lst (((List.range i).map (dVal c ls)).map V.int ++ [.int (dRest c ls i % ls.getD i 0)])) s1 nr) hp
          walk_at "rd"
          exact fin _ _ _ _ a1 a2
        · have a1 : dVal c ls i = dMix c i % ls.getD i 0 := if_neg fun z => hge z.2
          have a2 : dRest c ls (i + 1) = dRest c ls i := if_neg fun z => hge z.2
          walk_at "rd"
          exact fin _ _ _ _ a1 a2
      · have a1 : dVal c ls i = dMix c i % ls.getD i 0 := if_neg fun z => hg z.1
        have a2 : dRest c ls (i + 1) = dRest c ls i := if_neg fun z => hg z.1
        walk_at "rd"
        exact fin _ _ _ _ a1 a2
    · rintro σ H' ⟨k, m, rfl, s1, e1⟩
      walk_at "rd"
      exact q r H' s1 nr e1
theorem draw_go {H : Hp} {Q : VK} {E : XK} {c : Int} {p : Addr} {ls : List Int} (hp : SqL K H p (ls.map V.int)) (hc : Sz 1048576 c) (hl : ∀ z ∈ ls, 0 < z ∧ Sz 64 z) (hn : ls.length ≤ 1000)
    (q : ∀ r H', Same H H' → H r = none → H' r = some (.lst ((draw c ls).map V.int)) → Q (.ref r) H') : sp__law_draw K [.int c, .ref p] H Q E := by
  unfold sp__law_draw
  exact ⟨c, p, ls, rfl, hp, hc, hl, hn, q⟩

/-! ### _law_cell -/
@[irreducible] def sp__law_cell (K : PySem.W.Frag) : Sp := fun vs H Q _ => ∃ (l : Addr) (ns : List Int) (j : Nat), vs = [.ref l, .int (j : Nat)] ∧ SqL K H l (ns.map V.int) ∧ ns.length ≤ 63 ∧ j < 64 ∧ Q (.int (cell ns j)) H
theorem ok__law_cell (T : Txt K mg) : FnOk P w K mg base (L2.CX P w) 1 T.a__law_cell T.fd__law_cell ["script", "k"] (sp__law_cell K) := by
  refine T.F__law_cell.ok sc__law_cell (fun vs H Q E h => ?_) (fun cdv A outer s H vs Q E hr h => ?_)
  · unfold sp__law_cell at h
    obtain ⟨l, ns, j, rfl, _⟩ := h
    rfl
  · unfold sp__law_cell at h
    obtain ⟨l, ns, j, rfl, hs, hn, hj, q⟩ := h
    refine ⟨_, (pss_cons (ps_if (pt_cmpR op_lt (pv 1) (pe_callB call_ln rfl T.z_len bt_len (pa_cons (pv 0) pa_nil)) (nomark _)) (pss_one (ps_ret (pe_ix ix_seq (pv 0) (pv 1) (fun _ _ => rfl)))) pss_nil)
    (pss_one (ps_ret pe_int))), ?_⟩
    refine ⟨_, rfl, _, rfl, ln_l hs ⟨_, _, rfl, rfl, _, rfl, ?_⟩⟩
    rw [List.length_map]
    refine ite2 (fun h => ?_) (fun h => ?_)
    · have h' : j < ns.length := by have := of_decide_eq_true h; omega
      refine ⟨_, rfl, _, rfl, .inl ⟨l, _, _, .int (cell ns j), rfl, rfl, hs, ?_, q⟩⟩
      exact atI_map_cell h'
    · have h' : ns.length ≤ j := by
        refine Nat.le_of_not_lt fun z => h (decide_eq_true ?_)
        omega
      have e : cell ns j = 0 := by unfold cell; rw [List.getD_eq_getElem?_getD, List.getElem?_eq_none h']; rfl
      rw [e] at q
      exact q
theorem cell_go {H : Hp} {Q : VK} {E : XK} {l : Addr} {ns : List Int} (j : Nat) (hs : SqL K H l (ns.map V.int)) (hn : ns.length ≤ 63) (hj : j < 64) (q : Q (.int (cell ns j)) H) : sp__law_cell K [.ref l, .int (j : Nat)] H Q E := by
  unfold sp__law_cell
  exact ⟨l, ns, j, rfl, hs, hn, hj, q⟩
theorem cell_at {H : Hp} {Q : VK} {E : XK} {l : Addr} {ns : List Int} {x : Int} (j : Nat) (hs : SqL K H l (ns.map V.int)) (hn : ns.length ≤ 63) (hj : j < 64) (ex : x = (j : Nat)) (q : Q (.int (cell ns j)) H) : sp__law_cell K [.ref l, .int x] H Q E := by
  subst ex
  exact cell_go j hs hn hj q
local macro_rules | `(tactic| walk_at "call") => `(tactic| first | (apply cell_go 0; (walk_at "sq"); assumption; decide) | (apply cell_go 1; (walk_at "sq"); assumption; decide) | (apply cell_go 2; (walk_at "sq"); assumption; decide) | (apply cell_go 3; (walk_at "sq"); assumption; decide) | (apply cell_go 4; (walk_at "sq"); assumption; decide) | (apply cell_go 5; (walk_at "sq"); assumption; decide) | (apply cell_go 6; (walk_at "sq"); assumption; decide) | (apply cell_go 7; (walk_at "sq"); assumption; decide) | (apply cell_go 8; (walk_at "sq"); assumption; decide) | (apply cell_go 9; (walk_at "sq"); assumption; decide) | (apply cell_go 10; (walk_at "sq"); assumption; decide) | (apply cell_go 11; (walk_at "sq"); assumption; decide) | (apply cell_go 12; (walk_at "sq"); assumption; decide) | (apply cell_go 13; (walk_at "sq"); assumption; decide))

/-! ### _law_flows -/
theorem draw_nn {c : Int} {n : Nat} {v : Int} (h0 : 0 < v) (h1 : v ≤ 1000000000000) : Nn (draw c (List.replicate n v)) := fun i => by
  by_cases h : i < n
  · have e : cell (draw c (List.replicate n v)) i = dVal c (List.replicate n v) i := by
      unfold cell draw
      rw [List.getD_eq_getElem?_getD, List.getElem?_map, List.length_replicate, List.getElem?_range h]
      rfl
    have g : (List.replicate n v).getD i 0 = v := by
      rw [List.getD_eq_getElem?_getD, List.getElem?_replicate, if_pos h]
      rfl
    have r := dVal_nn c (List.replicate n v) i (by omega)
    rw [e]
    omega
  · rw [cell_out (by unfold draw; rw [List.length_map, List.length_range, List.length_replicate]; omega)]
    omega
theorem draw_len {c : Int} {n : Nat} {v : Int} : (draw c (List.replicate n v)).length = n := by
  unfold draw
  rw [List.length_map, List.length_range, List.length_replicate]
@[irreducible] def sp__law_flows (K : PySem.W.Frag) : Sp := fun vs H Q E => ∃ (l : Addr) (ns : List Int), vs = [.ref l] ∧ (SqL K H l (ns.map V.int)) ∧ (ns.length ≤ 63) ∧ (Bits ns) ∧ (∀ fl r H', Flows fl → Same H H' → H r = none → H' r = some (.lst (fl.map V.int)) → Q (.ref r) H')
theorem ok__law_flows (T : Txt K mg) : FnOk P w K mg base (L2.CX P w) 4 T.a__law_flows T.fd__law_flows ["script"] (sp__law_flows K) := by
  refine T.F__law_flows.ok sc__law_flows (fun vs H Q E h => ?_) (fun cdv A outer s H vs Q E hr h => ?_)
  · unfold sp__law_flows at h
    obtain ⟨l, ns, rfl, _⟩ := h
    rfl
  · unfold sp__law_flows at h
    obtain ⟨l, ns, rfl, hs, hn, hb, q⟩ := h
    refine ⟨_, (pss_cons (ps_set (i := 1) sc__law_flows.nd rfl (Or.inl rfl) (pe_op op_add pe_int (pe_op op_mod (pe_callTy call_int1 rfl T.z_int bt_int (pa_cons (pe_callS (ok__law_cell T) (hr.mono (by decide)) rfl T.m__law_cell T.F__law_cell.kp T.b__law_cell (fun σ => passAt (takes_of rfl rfl rfl rfl) σ) (pa_cons (pv 0) (pa_cons pe_int pa_nil))) pa_nil)) pe_int)))
    (pss_cons (ps_cut (ps_if (pt_cmpR op_eq (pe_op op_mod (pe_op op_fdivB (pe_callTy call_int1 rfl T.z_int bt_int (pa_cons (pe_callS (ok__law_cell T) (hr.mono (by decide)) rfl T.m__law_cell T.F__law_cell.kp T.b__law_cell (fun σ => passAt (takes_of rfl rfl rfl rfl) σ) (pa_cons (pv 0) (pa_cons pe_int pa_nil))) pa_nil)) pe_int) pe_int) pe_int (nomark _)) (pss_one (ps_set (i := 1) sc__law_flows.nd rfl (Or.inl rfl) (pe_op op_add pe_int (pe_op op_mod (pe_op op_fdivB (pe_callTy call_int1 rfl T.z_int bt_int (pa_cons (pe_callS (ok__law_cell T) (hr.mono (by decide)) rfl T.m__law_cell T.F__law_cell.kp T.b__law_cell (fun σ => passAt (takes_of rfl rfl rfl rfl) σ) (pa_cons (pv 0) (pa_cons pe_int pa_nil))) pa_nil)) pe_int) pe_int)))) pss_nil))
    (pss_cons (ps_set (i := 2) sc__law_flows.nd rfl (Or.inr rfl) (pe_ix ix_list (pe_lst (pa_cons pe_int (pa_cons pe_int (pa_cons pe_int (pa_cons pe_int pa_nil))))) (pe_op op_mod (pe_callTy call_int1 rfl T.z_int bt_int (pa_cons (pe_callS (ok__law_cell T) (hr.mono (by decide)) rfl T.m__law_cell T.F__law_cell.kp T.b__law_cell (fun σ => passAt (takes_of rfl rfl rfl rfl) σ) (pa_cons (pv 0) (pa_cons pe_int pa_nil))) pa_nil)) pe_int) (fun _ _ => rfl)))
    (pss_cons (ps_set (i := 3) sc__law_flows.nd rfl (Or.inl rfl) (pe_callS (ok__law_draw T) (hr.mono (by decide)) rfl T.m__law_draw T.F__law_draw.kp T.b__law_draw (fun σ => passAt (takes_of rfl rfl rfl rfl) σ) (pa_cons (pe_callS (ok__law_cell T) (hr.mono (by decide)) rfl T.m__law_cell T.F__law_cell.kp T.b__law_cell (fun σ => passAt (takes_of rfl rfl rfl rfl) σ) (pa_cons (pv 0) (pa_cons pe_int pa_nil))) (pa_cons (pe_lc (own := [("k", 4)]) (tt := tYes) rfl sc__law_flows.nd (pi_range1 rfl T.z_range (pa_cons (pe_callB (call_mn rfl) rfl T.z_min bt_min (pa_cons (pv 1) (pa_cons pe_int pa_nil))) pa_nil)) (blkOk_by (own := [("k", 4)]) (N := ["script", "size", "limit", "flows", "k"]) (sc := defScope s__law_flows) (by decide +kernel)) (fun _ _ _ _ _ => (pg_name (i := 4) sc__law_flows.nd rfl (Or.inl rfl))) (fun _ _ _ _ _ => pts_nil) (fun _ _ _ _ _ => (pv 2))) pa_nil))))
    (pss_cons (ps_for (passes_of rfl) rfl (pi_range1 rfl T.z_range (pa_cons (pe_op op_sub (pv 1) (pe_callB call_ln rfl T.z_len bt_len (pa_cons (pv 3) pa_nil))) pa_nil)) (pg_name (i := 4) sc__law_flows.nd rfl (Or.inl rfl))
      (pss_one (ps_expr (pe_bm PySem.F.plainAttrs_list PySem.F.slot_list_append PySem.F.type_list_append mt_app (pv 3) (pa_cons (pe_ix ix_list (pv 3) (pe_op op_mod (pe_callTy call_int1 rfl T.z_int bt_int (pa_cons (pe_op op_mulB (pv 4) pe_int) pa_nil)) (pe_callB call_ln rfl T.z_len bt_len (pa_cons (pv 3) pa_nil))) (fun _ _ => rfl)) pa_nil)))))
    (pss_cons (ps_cut (ps_if (pt_cmpR op_eq (pe_op op_mod (pe_op op_fdivB (pe_callTy call_int1 rfl T.z_int bt_int (pa_cons (pe_callS (ok__law_cell T) (hr.mono (by decide)) rfl T.m__law_cell T.F__law_cell.kp T.b__law_cell (fun σ => passAt (takes_of rfl rfl rfl rfl) σ) (pa_cons (pv 0) (pa_cons pe_int pa_nil))) pa_nil)) pe_int) pe_int) pe_int (nomark _)) (pss_one (ps_for (passes_of rfl) rfl (pi_range1 rfl T.z_range (pa_cons (pe_op op_sub (pv 1) pe_int) pa_nil)) (pg_name (i := 4) sc__law_flows.nd rfl (Or.inl rfl))
        (pss_one (ps_asg pe_int (pg_sub (pv 3) (pe_op op_add (pv 4) pe_int) set_li))))) pss_nil))
    (pss_cons (ps_asg (pe_op op_sub (pe_op op_sub pe_int pe_int) (pe_op op_mod (pe_callTy call_int1 rfl T.z_int bt_int (pa_cons (pe_callS (ok__law_cell T) (hr.mono (by decide)) rfl T.m__law_cell T.F__law_cell.kp T.b__law_cell (fun σ => passAt (takes_of rfl rfl rfl rfl) σ) (pa_cons (pv 0) (pa_cons pe_int pa_nil))) pa_nil)) (pe_ix ix_list (pe_lst (pa_cons pe_int (pa_cons pe_int (pa_cons pe_int pa_nil)))) (pe_op op_mod (pe_op op_fdivB (pe_callTy call_int1 rfl T.z_int bt_int (pa_cons (pe_callS (ok__law_cell T) (hr.mono (by decide)) rfl T.m__law_cell T.F__law_cell.kp T.b__law_cell (fun σ => passAt (takes_of rfl rfl rfl rfl) σ) (pa_cons (pv 0) (pa_cons pe_int pa_nil))) pa_nil)) pe_int) pe_int) (fun _ _ => rfl)))) (pg_sub (pv 3) pe_int set_li))
    (pss_cons (ps_cut (ps_if (PW.pt (pw_or (pt_cmpR op_eq (pe_op op_mod (pe_op op_fdivB (pe_callTy call_int1 rfl T.z_int bt_int (pa_cons (pe_callS (ok__law_cell T) (hr.mono (by decide)) rfl T.m__law_cell T.F__law_cell.kp T.b__law_cell (fun σ => passAt (takes_of rfl rfl rfl rfl) σ) (pa_cons (pv 0) (pa_cons pe_int pa_nil))) pa_nil)) pe_int) pe_int) pe_int (nomark _)) (pw_or1 (pt_cmpR op_eq (pe_callB (call_mxl rfl) rfl T.z_max bt_max (pa_cons (pv 3) pa_nil)) pe_int (nomark _))))) (pss_one (ps_asg (pe_op op_add pe_int (pe_op op_mod (pe_callTy call_int1 rfl T.z_int bt_int (pa_cons (pe_callS (ok__law_cell T) (hr.mono (by decide)) rfl T.m__law_cell T.F__law_cell.kp T.b__law_cell (fun σ => passAt (takes_of rfl rfl rfl rfl) σ) (pa_cons (pv 0) (pa_cons pe_int pa_nil))) pa_nil)) pe_int)) (pg_sub (pv 3) (pe_op op_sub (pv 1) pe_int) set_li))) pss_nil))
    (pss_one (ps_ret (pv 3))))))))))), ?_⟩
    walk_at "rd"
    refine ⟨fun σ' H' => Wall (H' = H ∧ ∃ sz : Int, 2 ≤ sz ∧ sz ≤ 481 ∧ σ' = [some (.ref l), some (.int sz), none, none, none]), ?_, ?_⟩
    · walk_at "rd"
      refine iteI (fun _ => ?_) (fun _ => ?_)
      · walk_at "rd"
        exact wall ⟨rfl, _, by omega, by omega, rfl⟩
      · exact wall ⟨rfl, _, by omega, by omega, rfl⟩
    rintro _ H' ⟨w1⟩
    obtain ⟨rfl, sz, z1, z2, rfl⟩ := w1 trivial
    walk_at "rd"
    obtain ⟨v, hv, ev⟩ := atI_ex [2, 100, 1000003, 1000000000000] (i := cell ns 1 % 4) (by omega) (by show _ < (4:Int); omega)
    refine ixL_go (l_of upd_same) ev ?_
    have hv2 : 2 ≤ v ∧ v ≤ 1000000000000 := by
      simp only [List.mem_cons, List.not_mem_nil, or_false] at hv
      omega
    clear ev hv
    walk_at "rd"
    rename_i pl hpl
    have sl := same_new (o := .lst [.int 2, .int 100, .int 1000003, .int 1000000000000]) (Same.refl H') hpl
    generalize upd H' pl (.lst [.int 2, .int 100, .int 1000003, .int 1000000000000]) = H1 at *
    have hs1 := same_lst sl hs
    walk_at "rd"
    obtain ⟨n, en, n1, n2⟩ : ∃ n : Nat, (if (60 : Int) < sz then 60 else sz) = n ∧ (n : Int) ≤ sz ∧ 2 ≤ n ∧ n ≤ 60 := ⟨(if (60 : Int) < sz then 60 else sz).toNat, by split <;> omega, by split <;> omega, by split <;> omega, by split <;> omega⟩
    rw [en]
    refine ⟨by omega, by omega, fun W hW => lc_rgm (n := ((n : Nat) : Int).toNat) (fun _ => .int v) hW (by rw [sizeLine_eq]; omega) (fun i H2 N acc hi s2 e2 hl k => ?_) fun H2 s2 e2 => ?_⟩
    · walk_at "rd"
      exact ⟨acc, e2, hl, k _ (same_set s2 hW) upd_same⟩
    rw [Int.toNat_natCast, range_rep] at e2
    have L2 := l_of (K := K) e2
    have hs2 := same_lst s2 hs1
    walk_at "rd"
    refine draw_go (ls := List.replicate n v) L2 (cell_sz hb _) (fun z hz => ?_) (by rw [List.length_replicate]; omega) fun D H3 s3 hD e3 => ?_
    · rw [List.mem_replicate] at hz
      obtain ⟨_, rfl⟩ := hz
      exact ⟨by omega, ⟨by omega⟩⟩
    have nn0 := draw_nn (c := cell ns 2) (n := n) (v := v) (by omega) hv2.2
    have len0 := draw_len (c := cell ns 2) (n := n) (v := v)
    generalize draw (cell ns 2) (List.replicate n v) = f0 at *
    have hs3 := fun (H' : Hp) (s : Same H2 H') => same_lst s hs2
    have sb := sl.trans s2
    clear e2 L2 hs1 hs en
    walk_at "rd"
    rw [map_len, len0]
    refine ⟨by omega, by omega, for_range (n := (sz - (n : Int)).toNat) (fun i σ H' => Wall (∃ (fl : List Int) (u : Option V), fl.length = n + i ∧ Nn fl ∧ Same H2 H' ∧ H' D = some (.lst (fl.map V.int)) ∧ σ = [some (.ref l), some (.int sz), some (.int v), some (.ref D), u])) (wall ⟨f0, _, len0, nn0, s3, e3, rfl⟩) ?_ ?_⟩
    · rintro i σ H4 hi ⟨w4⟩
      obtain ⟨fl, u, hlen, hnn, s4, e4, rfl⟩ := w4 trivial
      have F4 := l_of (K := K) e4
      have lm := map_len (f := V.int) (xs := fl)
      walk_at "rd"
      rw [lm]
      have il : (0 : Int) < (fl.length : Int) := by omega
      have m1 := Int.emod_nonneg ((0 + (i : Int)) * 7) (b := (fl.length : Int)) (by omega)
      have m2 := Int.emod_lt_of_pos ((0 + (i : Int)) * 7) il
      walk_at "rd"
      refine ixL_go F4 (atI_cl ((0 + (i : Int)) * 7 % (fl.length : Int)).toNat (by omega) (by omega)) ?_
      walk_at "rd"
      refine app_go e4 (by rw [List.length_map, sizeLine_eq]; omega) ?_
      rw [map_appI]
      exact wall ⟨_, _, by rw [List.length_append, hlen]; rfl, hnn.app (hnn _).1 (hnn _).2, same_set s4 hD, upd_same, rfl⟩
    rintro σ H4 ⟨w4⟩
    obtain ⟨fl, u, hlen, hnn, s4, e4, rfl⟩ := w4 trivial
    have hlen2 : fl.length = sz.toNat := by omega
    walk_at "rd"
    have hs4 := hs3 _ s4
    refine ⟨fun σ' H' => Wall (∃ (fl : List Int) (u : Option V), fl.length = sz.toNat ∧ Nn fl ∧ Same H2 H' ∧ H' D = some (.lst (fl.map V.int)) ∧ σ' = [some (.ref l), some (.int sz), some (.int v), some (.ref D), u]), ?_, ?_⟩
    · walk_at "rd"
      refine iteI (fun _ => ?_) (fun _ => ?_)
      · walk_at "rd"
        refine ⟨by omega, by omega, for_range (n := (sz - 2).toNat) (fun i σ H' => Wall (∃ (fl : List Int) (u : Option V), fl.length = sz.toNat ∧ Nn fl ∧ Same H2 H' ∧ H' D = some (.lst (fl.map V.int)) ∧ σ = [some (.ref l), some (.int sz), some (.int v), some (.ref D), u])) (wall ⟨fl, _, hlen2, hnn, s4, e4, rfl⟩) ?_ ?_⟩
        · rintro i σ H5 hi ⟨w5⟩
          obtain ⟨fl, u, hlen, hnn, s5, e5, rfl⟩ := w5 trivial
          walk_at "rd"
          refine setL_go e5 (ixN_nat (i + 1) (by rw [List.length_map]; omega) (by omega)) ?_
          rw [map_setI]
          exact wall ⟨_, _, by rw [List.length_set, hlen], hnn.set (by omega) (by omega), same_set s5 hD, upd_same, rfl⟩
        · rintro σ H5 h5
          exact h5
      · exact wall ⟨fl, _, hlen2, hnn, s4, e4, rfl⟩
    clear hs4 hlen hlen2 hnn s4 e4 w4
    rintro _ H5 ⟨w5⟩
    obtain ⟨fl, u, hlen, hnn, s5, e5, rfl⟩ := w5 trivial
    have hs5 := hs3 _ s5
    walk_at "rd"
    rename_i p6 hp6
    obtain ⟨t, ht, et⟩ := atI_ex [3, 1000, 1000000000000] (i := cell ns 1 / 12 % 3) (by omega) (by show _ < (3:Int); omega)
    refine ixL_go (l_of upd_same) et ?_
    have ht2 : 3 ≤ t ∧ t ≤ 1000000000000 := by
      simp only [List.mem_cons, List.not_mem_nil, or_false] at ht
      omega
    have t0 : (0 : Int) < t := by omega
    have m3 := Int.emod_nonneg (cell ns 3) (b := t) (by omega)
    have m4 := Int.emod_lt_of_pos (cell ns 3) t0
    clear et ht
    have s6 := same_new (o := .lst [.int 3, .int 1000, .int 1000000000000]) s5 hp6
    have e6 := hp_upd (o' := .lst [.int 3, .int 1000, .int 1000000000000]) hp6 e5
    generalize upd H5 p6 (.lst [.int 3, .int 1000, .int 1000000000000]) = H6 at *
    clear hs5 s5 e5 w5
    walk_at "rd"
    refine setL_go e6 (ixN_nat 0 (by rw [List.length_map]; omega) rfl) ?_
    rw [map_setI]
    have s7 := same_set (o := .lst ((fl.set 0 (0 - 1 - cell ns 3 % t)).map V.int)) s6 hD
    have e7 := upd_same (H := H6) (a := D) (o := .lst ((fl.set 0 (0 - 1 - cell ns 3 % t)).map V.int))
    generalize upd H6 D (.lst ((fl.set 0 (0 - 1 - cell ns 3 % t)).map V.int)) = H7 at *
    have l7 : (fl.set 0 (0 - 1 - cell ns 3 % t)).length = sz.toNat := by rw [List.length_set, hlen]
    have c7 : cell (fl.set 0 (0 - 1 - cell ns 3 % t)) 0 = 0 - 1 - cell ns 3 % t := by
      rw [cell_set, if_pos ⟨rfl, by omega⟩]
    have n7 : ∀ i, 1 ≤ i → 0 ≤ cell (fl.set 0 (0 - 1 - cell ns 3 % t)) i ∧ cell (fl.set 0 (0 - 1 - cell ns 3 % t)) i ≤ 1000000000000 := fun i hi => by
      rw [cell_set, if_neg (by omega)]
      exact hnn i
    generalize fl.set 0 (0 - 1 - cell ns 3 % t) = f7 at *
    clear hlen hnn s6 e6
    have hs7 := hs3 _ s7
    have F7 := l_of (K := K) e7
    walk_at "rd"
    have mk : ∀ g : List Int, g.length = sz.toNat → cell g 0 = 0 - 1 - cell ns 3 % t → (∀ i, 1 ≤ i → 0 ≤ cell g i ∧ cell g i ≤ 1000000000000) → (∃ i, 1 ≤ i ∧ i < g.length ∧ 0 < cell g i) → Flows g := fun g h1 h2 h3 h4 =>
      ⟨by omega, by omega, by omega, by omega, fun i hi => (h3 i hi).1, fun i => by
        by_cases e : 1 ≤ i
        · exact (h3 i e).2
        · have e0 : i = 0 := by omega
          subst e0
          omega, h4⟩
    have mkS : Flows (f7.set (sz - 1).toNat (1 + cell ns 4 % 1000000000)) := by
      refine mk _ (by rw [List.length_set, l7]) ?_ (fun i hi => ?_) ⟨(sz - 1).toNat, by omega, by rw [List.length_set]; omega, ?_⟩
      · rw [cell_set, if_neg (by omega)]
        exact c7
      · rw [cell_set]
        split
        · omega
        · exact n7 i hi
      · rw [cell_set, if_pos ⟨rfl, by omega⟩]
        omega
    refine ⟨fun σ' H' => Wall (∃ (g : List Int), Flows g ∧ Same H2 H' ∧ H' D = some (.lst (g.map V.int)) ∧ σ' = [some (.ref l), some (.int sz), some (.int v), some (.ref D), u]), ?_, ?_⟩
    · walk_at "rd"
      refine iteI (fun _ => ?_) (fun _ => ?_)
      · walk_at "rd"
        refine setL_go e7 (ixN_nat (sz - 1).toNat (by rw [List.length_map]; omega) (by omega)) ?_
        rw [map_setI]
        exact wall ⟨_, mkS, same_set s7 hD, upd_same, rfl⟩
      · walk_at "rd"
        refine mxl_go F7 (by omega) fun m hm hle => ?_
        walk_at "rd"
        refine iteI (fun _ => ?_) (fun c => ?_)
        · walk_at "rd"
          refine setL_go e7 (ixN_nat (sz - 1).toNat (by rw [List.length_map]; omega) (by omega)) ?_
          rw [map_setI]
          exact wall ⟨_, mkS, same_set s7 hD, upd_same, rfl⟩
        · refine wall ⟨_, mk _ l7 c7 n7 ?_, s7, e7, rfl⟩
          obtain ⟨i, hi, ei⟩ := mem_cell hm
          have h1 := hle _ (cell_mem (fl := f7) (i := 1) (by omega))
          have h2 := n7 1 (Nat.le_refl _)
          refine ⟨i, ?_, hi, by omega⟩
          by_cases e : 1 ≤ i
          · exact e
          · have e0 : i = 0 := by omega
            subst e0
            omega
    rintro _ H8 ⟨w8⟩
    obtain ⟨g, G, s8, e8, rfl⟩ := w8 trivial
    walk_at "rd"
    exact q g D _ G (sb.trans s8) (none_same sb hD) e8
theorem _law_flows_go {H : Hp} {Q : VK} {E : XK} {l : Addr} {ns : List Int} (hs : SqL K H l (ns.map V.int)) (hn : ns.length ≤ 63) (hb : Bits ns) (q : ∀ fl r H', Flows fl → Same H H' → H r = none → H' r = some (.lst (fl.map V.int)) → Q (.ref r) H') : sp__law_flows K [.ref l] H Q E := by
  unfold sp__law_flows
  exact ⟨l, ns, rfl, hs, hn, hb, q⟩
local macro_rules | `(tactic| walk_at "call") => `(tactic| (apply _law_flows_go; (walk_at "sq"); (first | assumption | omega); (first | assumption | omega)))

/-! ### _law_two_to -/
@[irreducible] def sp__law_two_to : Sp := fun vs H Q E => ∃ (b : Int), vs = [.int b] ∧ (0 ≤ b) ∧ (b ≤ 100) ∧ (Q (.int (2 ^ b.toNat)) H)
theorem ok__law_two_to (T : Txt K mg) : FnOk P w K mg base (L2.CX P w) 1 T.a__law_two_to T.fd__law_two_to ["bits"] sp__law_two_to := by
  refine T.F__law_two_to.ok sc__law_two_to (fun vs H Q E h => ?_) (fun cdv A outer s H vs Q E hr h => ?_)
  · unfold sp__law_two_to at h
    obtain ⟨b, rfl, _⟩ := h
    rfl
  · unfold sp__law_two_to at h
    obtain ⟨b, rfl, b0, b1, q⟩ := h
    refine ⟨_, (pss_cons (ps_set (i := 1) sc__law_two_to.nd rfl (Or.inl rfl) pe_int)
    (pss_cons (ps_for (passes_of rfl) rfl (pi_range1 rfl T.z_range (pa_cons (pv 0) pa_nil)) (pg_name (i := 2) sc__law_two_to.nd rfl (Or.inl rfl))
      (pss_one (ps_set (i := 1) sc__law_two_to.nd rfl (Or.inl rfl) (pe_op op_mulB (pv 1) pe_int))))
    (pss_one (ps_ret (pv 1))))), ?_⟩
    walk_at "rd"
    refine ⟨by omega, by omega, for_range (n := b.toNat) (fun i σ H' => Wall (H' = H ∧ ∃ u, σ = [some (.int b), some (.int (2 ^ i)), u])) (wall ⟨rfl, _, rfl⟩) ?_ ?_⟩
    · rintro i σ H' hi ⟨w1⟩
      obtain ⟨rfl, u, rfl⟩ := w1 trivial
      have sj : Sz 200 ((2 : Int) ^ i) := (Sz.pow2 i).mono (by omega)
      walk_at "rd"
      exact wall ⟨rfl, _, by rw [show (2 : Int) ^ (i + 1) = 2 ^ i * 2 from Int.pow_succ _ _]; rfl⟩
    · rintro σ H' ⟨w1⟩
      obtain ⟨rfl, u, rfl⟩ := w1 trivial
      walk_at "rd"
      exact q
theorem _law_two_to_go {H : Hp} {Q : VK} {E : XK} {b : Int} (b0 : 0 ≤ b) (b1 : b ≤ 100) (q : Q (.int (2 ^ b.toNat)) H) : sp__law_two_to [.int b] H Q E := by
  unfold sp__law_two_to
  exact ⟨b, rfl, b0, b1, q⟩
local macro_rules | `(tactic| walk_at "call") => `(tactic| (apply _law_two_to_go; (first | assumption | omega); (first | assumption | omega)))

/-! ### _law_sum_at -/
@[irreducible] def sp__law_sum_at (K : PySem.W.Frag) : Sp := fun vs H Q E => ∃ (p : Addr) (fl : List Int) (x : Int) (b : Int), vs = [.ref p, .int x, .int b] ∧ (SqL K H p (fl.map V.int)) ∧ (Small fl) ∧ (1 ≤ fl.length) ∧ (fl.length ≤ 481) ∧ (Sz 200 x) ∧ (0 ≤ b) ∧ (b ≤ 100) ∧ (Q (.int (hor fl x b.toNat fl.length)) H)
theorem ok__law_sum_at (T : Txt K mg) : FnOk P w K mg base (L2.CX P w) 2 T.a__law_sum_at T.fd__law_sum_at ["flows", "place", "bits"] (sp__law_sum_at K) := by
  refine T.F__law_sum_at.ok sc__law_sum_at (fun vs H Q E h => ?_) (fun cdv A outer s H vs Q E hr h => ?_)
  · unfold sp__law_sum_at at h
    obtain ⟨p, fl, x, b, rfl, _⟩ := h
    rfl
  · unfold sp__law_sum_at at h
    obtain ⟨p, fl, x, b, rfl, hF, hc, n1, n2, hx, b0, b1, q⟩ := h
    refine ⟨_, (pss_cons (ps_set (i := 3) sc__law_sum_at.nd rfl (Or.inl rfl) (pe_op op_sub (pe_callB call_ln rfl T.z_len bt_len (pa_cons (pv 0) pa_nil)) pe_int))
    (pss_cons (ps_set (i := 4) sc__law_sum_at.nd rfl (Or.inl rfl) (pe_callS (ok__law_two_to T) (hr.mono (by decide)) rfl T.m__law_two_to T.F__law_two_to.kp T.b__law_two_to (fun σ => passAt (takes_of rfl rfl rfl rfl) σ) (pa_cons (pv 2) pa_nil)))
    (pss_cons (ps_set (i := 5) sc__law_sum_at.nd rfl (Or.inl rfl) pe_int)
    (pss_cons (ps_set (i := 6) sc__law_sum_at.nd rfl (Or.inl rfl) (pe_ix ix_list (pv 0) (pv 3) (fun _ _ => rfl)))
    (pss_cons (ps_for (passes_of rfl) rfl (pi_range1 rfl T.z_range (pa_cons (pv 3) pa_nil)) (pg_name (i := 7) sc__law_sum_at.nd rfl (Or.inl rfl))
      (pss_cons (ps_set (i := 5) sc__law_sum_at.nd rfl (Or.inl rfl) (pe_op op_mulB (pv 5) (pv 4)))
      (pss_one (ps_set (i := 6) sc__law_sum_at.nd rfl (Or.inl rfl) (pe_op op_add (pe_op op_mulB (pv 6) (pv 1)) (pe_op op_mulB (pe_ix ix_list (pv 0) (pe_op op_sub (pe_op op_sub (pv 3) pe_int) (pv 7)) (fun _ _ => rfl)) (pv 5)))))))
    (pss_one (ps_ret (pv 6)))))))), ?_⟩
    have lm := map_len (f := V.int) (xs := fl)
    walk_at "rd"
    rw [lm]
    refine ixL_go hF (atI_cl (fl.length - 1) (by omega) (by omega)) ?_
    walk_at "rd"
    have e1 : hor fl x b.toNat 1 = cell fl (fl.length - 1) := by
      show 0 * x + cell fl (fl.length - 1 - 0) * 2 ^ (b.toNat * 0) = _
      rw [Int.zero_mul, Int.zero_add, Nat.mul_zero, Nat.sub_zero, Int.pow_zero, Int.mul_one]
    refine ⟨by omega, by omega, for_range (n := ((fl.length : Int) - 1).toNat) (fun i σ H' => Wall (H' = H ∧ ∃ u, σ = [some (.ref p), some (.int x), some (.int b), some (.int ((fl.length : Int) - 1)), some (.int (2 ^ b.toNat)), some (.int (2 ^ (b.toNat * i))), some (.int (hor fl x b.toNat (i + 1))), u])) (wall ⟨rfl, _, by rw [e1]; rfl⟩) ?_ ?_⟩
    · rintro i σ H' hi ⟨w1⟩
      obtain ⟨rfl, u, rfl⟩ := w1 trivial
      have bi : b.toNat * i ≤ 100 * 481 := Nat.mul_le_mul (by omega) (by omega)
      have cm1 : CM (2 ^ (b.toNat * i)) (2 ^ b.toNat) := CM.of (Sz.pow2 _) (Sz.pow2 _) (by omega)
      have cm2 := hor_cm (b := b.toNat) hc.csz hx (by omega) (by decide) (t := i + 1) (by omega)
      have cm3 : CM (cell fl (fl.length - 1 - (i + 1))) (2 ^ (b.toNat * i) * 2 ^ b.toNat) := CM.of (hc.csz _) ((Sz.pow2 _).mul (Sz.pow2 _)) (by omega)
      walk_at "rd"
      refine ixL_go hF (atI_cl (fl.length - 1 - (i + 1)) (by omega) (by omega)) ?_
      walk_at "rd"
      have e2 : (2 : Int) ^ (b.toNat * (i + 1)) = 2 ^ (b.toNat * i) * 2 ^ b.toNat := by rw [Nat.mul_succ, Int.pow_add]
      refine wall ⟨rfl, some (.int (0 + (i : Int))), ?_⟩
      rw [show hor fl x b.toNat (i + 1 + 1) = hor fl x b.toNat (i + 1) * x + cell fl (fl.length - 1 - (i + 1)) * 2 ^ (b.toNat * (i + 1)) from rfl, e2]
      rfl
    · rintro σ H' ⟨w1⟩
      obtain ⟨rfl, u, rfl⟩ := w1 trivial
      walk_at "rd"
      rw [show ((fl.length : Int) - 1).toNat + 1 = fl.length by omega]
      exact q
theorem _law_sum_at_go {H : Hp} {Q : VK} {E : XK} {p : Addr} {fl : List Int} {x : Int} {b : Int} (hF : SqL K H p (fl.map V.int)) (hc : Small fl) (n1 : 1 ≤ fl.length) (n2 : fl.length ≤ 481) (hx : Sz 200 x) (b0 : 0 ≤ b) (b1 : b ≤ 100) (q : Q (.int (hor fl x b.toNat fl.length)) H) : sp__law_sum_at K [.ref p, .int x, .int b] H Q E := by
  unfold sp__law_sum_at
  exact ⟨p, fl, x, b, rfl, hF, hc, n1, n2, hx, b0, b1, q⟩
local macro_rules | `(tactic| walk_at "call") => `(tactic| (apply _law_sum_at_go; (walk_at "sq"); (first | assumption | omega); (first | assumption | omega); (first | assumption | omega); (first | assumption | exact Sz.mk (n := 200) (by omega)); (first | assumption | omega); (first | assumption | omega)))

/-! ### _law_place -/
@[irreducible] def sp__law_place (K : PySem.W.Frag) : Sp := fun vs H Q E => ∃ (p : Addr) (fl : List Int) (b : Int), vs = [.ref p, .int b] ∧ (SqL K H p (fl.map V.int)) ∧ (Flows fl) ∧ (1 ≤ b) ∧ (b ≤ 41) ∧ (∀ k, Place fl b.toNat k → k < 2 ^ 83 → Q (.int k) H)
theorem ok__law_place (T : Txt K mg) : FnOk P w K mg base (L2.CX P w) 3 T.a__law_place T.fd__law_place ["flows", "bits"] (sp__law_place K) := by
  refine T.F__law_place.ok sc__law_place (fun vs H Q E h => ?_) (fun cdv A outer s H vs Q E hr h => ?_)
  · unfold sp__law_place at h
    obtain ⟨p, fl, b, rfl, _⟩ := h
    rfl
  · unfold sp__law_place at h
    obtain ⟨p, fl, b, rfl, hF, F, b0, b1, q⟩ := h
    refine ⟨_, (pss_cons (ps_set (i := 2) sc__law_place.nd rfl (Or.inl rfl) pe_int)
    (pss_cons (ps_cut (ps_for (passes_of rfl) rfl (pi_range1 rfl T.z_range (pa_cons pe_int pa_nil)) (pg_name (i := 3) sc__law_place.nd rfl (Or.inl rfl))
      (pss_cons (ps_if (pt_cmpR op_gt (pe_callS (ok__law_sum_at T) (hr.mono (by decide)) rfl T.m__law_sum_at T.F__law_sum_at.kp T.b__law_sum_at (fun σ => passAt (takes_of rfl rfl rfl rfl) σ) (pa_cons (pv 0) (pa_cons (pv 2) (pa_cons (pv 1) pa_nil)))) pe_int (nomark _)) (pss_one ps_break) pss_nil)
      (pss_one (ps_set (i := 2) sc__law_place.nd rfl (Or.inl rfl) (pe_op op_mulB (pv 2) pe_int))))))
    (pss_cons (ps_set (i := 4) sc__law_place.nd rfl (Or.inl rfl) pe_int)
    (pss_cons (ps_cut (ps_for (passes_of rfl) rfl (pi_range1 rfl T.z_range (pa_cons pe_int pa_nil)) (pg_name (i := 3) sc__law_place.nd rfl (Or.inl rfl))
      (pss_cons (ps_if (pt_cmpR op_le (pe_op op_sub (pv 2) (pv 4)) pe_int (nomark _)) (pss_one ps_break) pss_nil)
      (pss_cons (ps_set (i := 5) sc__law_place.nd rfl (Or.inl rfl) (pe_op op_fdivB (pe_op op_add (pv 4) (pv 2)) pe_int))
      (pss_one (ps_cut (ps_if (pt_cmpR op_gt (pe_callS (ok__law_sum_at T) (hr.mono (by decide)) rfl T.m__law_sum_at T.F__law_sum_at.kp T.b__law_sum_at (fun σ => passAt (takes_of rfl rfl rfl rfl) σ) (pa_cons (pv 0) (pa_cons (pv 5) (pa_cons (pv 1) pa_nil)))) pe_int (nomark _)) (pss_one (ps_set (i := 2) sc__law_place.nd rfl (Or.inl rfl) (pv 5))) (pss_one (ps_set (i := 4) sc__law_place.nd rfl (Or.inl rfl) (pv 5))))))))))
    (pss_one (ps_ret (pv 4))))))), ?_⟩
    have hc := F.small
    have n1 := F.n2
    have n2 := F.n3
    walk_at "rd"
    refine ⟨fun σ' H' => Wall (H' = H ∧ ∃ (j : Nat) (u : Option V), j ≤ 82 ∧ 0 < hor fl (2 ^ j) b.toNat fl.length ∧ σ' = [some (.ref p), some (.int b), some (.int (2 ^ j)), u, none, none]), ?_, ?_⟩
    · walk_at "rd"
      refine ⟨by decide, by decide, for_range (n := 120) (fun i σ H' => Wall (H' = H ∧ ∃ u, i ≤ 82 ∧ σ = [some (.ref p), some (.int b), some (.int (2 ^ i)), u, none, none])) (wall ⟨rfl, _, by omega, rfl⟩) ?_ ?_⟩
      · rintro i σ H' hi ⟨w1⟩
        obtain ⟨rfl, u, h82, rfl⟩ := w1 trivial
        have sj : Sz 200 ((2 : Int) ^ i) := (Sz.pow2 i).mono (by omega)
        walk_at "rd"
        refine iteD (fun c => ?_) (fun c => ?_)
        · exact wall ⟨rfl, i, _, h82, c, rfl⟩
        · have h83 : i < 82 := by
            by_cases h : i < 82
            · exact h
            · have := hor_pos (b := b.toNat) F (pow_ub (b := b.toNat) (j := i) (by omega) (by omega))
              omega
          walk_at "rd"
          exact wall ⟨rfl, _, by omega, by rw [show (2 : Int) ^ (i + 1) = 2 ^ i * 2 from Int.pow_succ _ _]; rfl⟩
      · rintro σ H' ⟨w1⟩
        obtain ⟨_, u, h82, _⟩ := w1 trivial
        omega
    rintro _ H' ⟨w2⟩
    obtain ⟨rfl, j, u, hj, hp, rfl⟩ := w2 trivial
    have h0 := hor_0 (b := b.toNat) F
    have hub : (2 : Int) ^ j ≤ 4835703278458516698824704 := by
      have := pow_le2 hj
      have e : (2 : Int) ^ 82 = 4835703278458516698824704 := by decide
      omega
    walk_at "rd"
    refine ⟨fun σ' H2 => Wall (H2 = H' ∧ ∃ (lo hi : Int) (u v : Option V), Place fl b.toNat lo ∧ lo < 2 ^ 83 ∧ σ' = [some (.ref p), some (.int b), some (.int hi), u, some (.int lo), v]), ?_, ?_⟩
    · walk_at "rd"
      refine ⟨by decide, by decide, for_range (n := 121) (fun i σ H2 => Wall (H2 = H' ∧ ∃ (lo hi : Int) (u v : Option V), i ≤ j ∧ hi - lo = 2 ^ (j - i) ∧ 0 ≤ lo ∧ hi ≤ 4835703278458516698824704 ∧ hor fl lo b.toNat fl.length ≤ 0 ∧ 0 < hor fl hi b.toNat fl.length ∧ σ = [some (.ref p), some (.int b), some (.int hi), u, some (.int lo), v])) (wall ⟨rfl, 0, 2 ^ j, _, _, by omega, by rw [Nat.sub_zero]; omega, by omega, hub, by omega, hp, rfl⟩) ?_ ?_⟩
      · rintro i σ H2 hi ⟨w3⟩
        obtain ⟨rfl, lo, hi, u, v, ij, hd, l0, l2, l3, l4, rfl⟩ := w3 trivial
        have pji := pow_pos2 (j - i)
        have slo : Sz 200 lo := ⟨by omega⟩
        have smi : Sz 200 ((lo + hi) / 2) := ⟨by omega⟩
        walk_at "rd"
        refine iteD (fun c => ?_) (fun c => ?_)
        · have eh : hi = lo + 1 := by
            have := pow_pos2 (j - i)
            omega
          subst eh
          exact wall ⟨rfl, lo, _, _, _, ⟨l0, l3, l4⟩, by omega, rfl⟩
        · have ij2 : i < j := by
            by_cases h : i = j
            · subst h
              rw [Nat.sub_self, Int.pow_zero] at hd
              omega
            · omega
          obtain ⟨d, hd2⟩ : ∃ d, j - i = d + 1 := ⟨j - i - 1, by omega⟩
          have hd3 : j - (i + 1) = d := by omega
          rw [hd2, Int.pow_succ] at hd
          have pd := pow_pos2 d
          walk_at "rd"
          refine ⟨_, ?_, fun _ _ h => h⟩
          walk_at "rd"
          refine iteD (fun c5 => ?_) (fun c5 => ?_)
          · walk_at "rd"
            exact wall ⟨rfl, lo, _, _, _, by omega, by rw [hd3]; omega, l0, by omega, l3, c5, rfl⟩
          · walk_at "rd"
            exact wall ⟨rfl, _, hi, _, _, by omega, by rw [hd3]; omega, by omega, l2, by omega, l4, rfl⟩
      · rintro σ H2 ⟨w3⟩
        obtain ⟨_, lo, hi, u, v, ij, _⟩ := w3 trivial
        omega
    rintro _ H2 ⟨w4⟩
    obtain ⟨rfl, lo, hi, u, v, hP, hlt, rfl⟩ := w4 trivial
    walk_at "rd"
    exact q lo hP hlt
theorem _law_place_go {H : Hp} {Q : VK} {E : XK} {p : Addr} {fl : List Int} {b : Int} (hF : SqL K H p (fl.map V.int)) (F : Flows fl) (b0 : 1 ≤ b) (b1 : b ≤ 41) (q : ∀ k, Place fl b.toNat k → k < 2 ^ 83 → Q (.int k) H) : sp__law_place K [.ref p, .int b] H Q E := by
  unfold sp__law_place
  exact ⟨p, fl, b, rfl, hF, F, b0, b1, q⟩
local macro_rules | `(tactic| walk_at "call") => `(tactic| (apply _law_place_go; (walk_at "sq"); (first | assumption | omega); (first | assumption | omega); (first | assumption | omega)))

/-! ### check_flows -/
@[irreducible] def sp_check_flows (T : Txt K mg) : Sp := fun vs H Q E => ∃ (p : Addr) (fl : List Int), vs = [.ref p] ∧ (SqL K H p (fl.map V.int)) ∧ (∀ v, flowErr fl = some v → ∀ H', Same H H' → ∀ x, H' x = none → E (.ref T.c_OutOfRange) (some x) (upd H' x (.xd (f_OutOfRange [.int v])))) ∧ (flowErr fl = none → ∀ H', Same H H' → Q .non H')
theorem ok_check_flows (T : Txt K mg) : FnOk P w K mg base (L2.CX P w) 3 T.a_check_flows T.fd_check_flows ["flows"] (sp_check_flows T) := by
  refine T.F_check_flows.ok sc_check_flows (fun vs H Q E h => ?_) (fun cdv A outer s H vs Q E hr h => ?_)
  · unfold sp_check_flows at h
    obtain ⟨p, fl, rfl, _⟩ := h
    rfl
  · unfold sp_check_flows at h
    obtain ⟨p, fl, rfl, hF, e, q⟩ := h
    refine ⟨_, (pss_cons (ps_if (PW.pt (pw_or (pt_cmpR op_lt (pe_callB call_ln rfl T.z_len bt_len (pa_cons (pv 0) pa_nil)) pe_int (nomark _)) (pw_or1 (pt_cmpR op_gt (pe_callB call_ln rfl T.z_len bt_len (pa_cons (pv 0) pa_nil)) (pe_glob (v := .int 481) rfl T.m_MOST_FLOWS.choose_spec ⟨_, rfl⟩) (nomark _))))) (pss_one (ps_raiseX rfl (takes_of rfl rfl rfl rfl) (okx_OutOfRange T) (by decide) (hr.mono (by decide)) rfl T.m_OutOfRange (pa_cons (pe_callB call_ln rfl T.z_len bt_len (pa_cons (pv 0) pa_nil)) pa_nil))) pss_nil)
    (pss_cons (ps_if (pt_cmpR op_ge (pe_ix ix_list (pv 0) pe_int (fun _ _ => rfl)) pe_int (nomark _)) (pss_one (ps_raiseX rfl (takes_of rfl rfl rfl rfl) (okx_OutOfRange T) (by decide) (hr.mono (by decide)) rfl T.m_OutOfRange (pa_cons (pe_ix ix_list (pv 0) pe_int (fun _ _ => rfl)) pa_nil))) pss_nil)
    (pss_cons (ps_for (passes_of rfl) rfl (pi_list (pe_slice sl_list (pv 0) (po_some pe_int) po_none)) (pg_name (i := 1) sc_check_flows.nd rfl (Or.inl rfl))
      (pss_one (ps_if (pt_cmpR op_lt (pv 1) pe_int (nomark _)) (pss_one (ps_raiseX rfl (takes_of rfl rfl rfl rfl) (okx_OutOfRange T) (by decide) (hr.mono (by decide)) rfl T.m_OutOfRange (pa_cons (pv 1) pa_nil))) pss_nil)))
    (pss_one (ps_if (pt_cmpR op_eq (pe_callB (call_mxl rfl) rfl T.z_max bt_max (pa_cons (pe_slice sl_list (pv 0) (po_some pe_int) po_none) pa_nil)) pe_int (nomark _)) (pss_one (ps_raiseX rfl (takes_of rfl rfl rfl rfl) (okx_OutOfRange T) (by decide) (hr.mono (by decide)) rfl T.m_OutOfRange (pa_cons pe_int pa_nil))) pss_nil))))), ?_⟩
    unfold flowErr at e q
    have lm := map_len (f := V.int) (xs := fl)
    walk_at "rd"
    rw [lm]
    refine iteD (fun c => ?_) (fun c => ?_)
    · walk_at "rd"
      rw [lm]
      exact e _ (if_pos (.inl (by omega))) _ (Same.refl _)
    walk_at "rd"
    rw [lm]
    refine iteD (fun c2 => ?_) (fun c2 => ?_)
    · walk_at "rd"
      rw [lm]
      exact e _ (if_pos (.inr (by omega))) _ (Same.refl _)
    rw [if_neg (by omega)] at e q
    walk_at "rd"
    refine ixL_go hF (atI_cl 0 (by omega) rfl) ?_
    walk_at "rd"
    refine iteD (fun c3 => ?_) (fun c3 => ?_)
    · walk_at "rd"
      refine ixL_go hF (atI_cl 0 (by omega) rfl) ?_
      walk_at "rd"
      exact e _ (if_pos c3) _ (Same.refl _)
    rw [if_neg c3] at e q
    walk_at "rd"
    rename_i p1 hp1
    rw [cut_1 (by omega)]
    have S1 := l_of (K := K) (upd_same (H := H) (a := p1) (o := .lst ((fl.drop 1).map V.int)))
    have F1 := lst_upd (o := .lst ((fl.drop 1).map V.int)) hp1 hF
    have s1 := same_new (o := .lst ((fl.drop 1).map V.int)) (Same.refl H) hp1
    generalize upd H p1 (.lst ((fl.drop 1).map V.int)) = H1 at *
    refine ⟨⟨_, S1⟩, for_list (xs := (fl.drop 1).map V.int) (fun i σ H' => H' = H1 ∧ ∃ u, σ = [some (.ref p), u] ∧ ∀ j, j < i → ∀ y, (fl.drop 1)[j]? = some y → 0 ≤ y) ⟨rfl, _, rfl, fun j h => absurd h (Nat.not_lt_zero j)⟩ (fun i σ H' _ h => h.1 ▸ S1) ?_ ?_⟩
    · rintro i x σ H' hx ⟨rfl, u, rfl, hb⟩
      rw [List.getElem?_map] at hx
      cases hz : (fl.drop 1)[i]? with
      | none => rw [hz] at hx; cases hx
      | some z =>
        rw [hz] at hx
        cases hx
        walk_at "rd"
        refine iteD (fun c4 => ?_) (fun c4 => ?_)
        · walk_at "rd"
          refine e _ ?_ _ s1
          rw [find_neg c4 hz hb]
        · refine ⟨rfl, _, rfl, fun j hj y hy => ?_⟩
          by_cases ej : j = i
          · subst ej
            rw [hz] at hy
            cases hy
            omega
          · exact hb j (by omega) y hy
    · rintro σ H' ⟨rfl, u, rfl, hb⟩
      have nn : ∀ z ∈ fl.drop 1, 0 ≤ z := fun z hz => by
        obtain ⟨i, hi, ei⟩ := List.mem_iff_getElem.mp hz
        exact hb i (by rw [List.length_map]; exact hi) z (by rw [List.getElem?_eq_getElem hi, ei])
      rw [find_nn nn] at e q
      walk_at "rd"
      rename_i p2 hp2
      rw [cut_1 (by omega)]
      have S2 := l_of (K := K) (upd_same (H := H') (a := p2) (o := .lst ((fl.drop 1).map V.int)))
      have s2 := same_new (o := .lst ((fl.drop 1).map V.int)) s1 hp2
      generalize upd H' p2 (.lst ((fl.drop 1).map V.int)) = H2 at *
      refine mxl_go S2 (by rw [List.length_drop]; omega) fun m hm hle => ?_
      walk_at "rd"
      refine iteI (fun c4 => ?_) (fun c4 => ?_)
      · walk_at "rd"
        refine e _ (if_pos ?_) _ s2
        refine List.all_eq_true.mpr fun z hz => ?_
        have h1 := nn z hz
        have h2 := hle z hz
        rw [decide_eq_true_iff]
        omega
      · refine q (if_neg fun h => ?_) _ s2
        have := List.all_eq_true.mp h m hm
        rw [decide_eq_true_iff] at this
        exact c4 this
theorem check_flows_go (T : Txt K mg) {H : Hp} {Q : VK} {E : XK} {p : Addr} {fl : List Int} (hF : SqL K H p (fl.map V.int)) (e : ∀ v, flowErr fl = some v → ∀ H', Same H H' → ∀ x, H' x = none → E (.ref T.c_OutOfRange) (some x) (upd H' x (.xd (f_OutOfRange [.int v])))) (q : flowErr fl = none → ∀ H', Same H H' → Q .non H') : sp_check_flows T [.ref p] H Q E := by
  unfold sp_check_flows
  exact ⟨p, fl, rfl, hF, e, q⟩

/-! ### scaled_sum -/
@[irreducible] def sp_scaled_sum (K : PySem.W.Frag) : Sp := fun vs H Q E => ∃ (p : Addr) (fl : List Int) (x : Int) (b : Int), vs = [.ref p, .int x, .int b] ∧ (SqL K H p (fl.map V.int)) ∧ (Small fl) ∧ (1 ≤ fl.length) ∧ (fl.length ≤ 481) ∧ (Sz 200 x) ∧ (0 ≤ b) ∧ (b ≤ 100) ∧ (Q (.int (hor fl x b.toNat fl.length)) H)
theorem ok_scaled_sum (T : Txt K mg) : FnOk P w K mg base (L2.CX P w) 1 T.a_scaled_sum T.fd_scaled_sum ["flows", "numerator", "bits"] (sp_scaled_sum K) := by
  refine T.F_scaled_sum.ok sc_scaled_sum (fun vs H Q E h => ?_) (fun cdv A outer s H vs Q E hr h => ?_)
  · unfold sp_scaled_sum at h
    obtain ⟨p, fl, x, b, rfl, _⟩ := h
    rfl
  · unfold sp_scaled_sum at h
    obtain ⟨p, fl, x, b, rfl, hF, hc, n1, n2, hx, b0, b1, q⟩ := h
    refine ⟨_, (pss_cons (ps_set (i := 3) sc_scaled_sum.nd rfl (Or.inl rfl) (pe_op op_sub (pe_callB call_ln rfl T.z_len bt_len (pa_cons (pv 0) pa_nil)) pe_int))
    (pss_cons (ps_set (i := 4) sc_scaled_sum.nd rfl (Or.inl rfl) pe_int)
    (pss_cons (ps_for (passes_of rfl) rfl (pi_range3 rfl T.z_range (pa_cons (pv 3) (pa_cons (pe_un un_neg pe_int) (pa_cons (pe_un un_neg pe_int) pa_nil)))) (pg_name (i := 5) sc_scaled_sum.nd rfl (Or.inl rfl))
      (pss_one (ps_set (i := 4) sc_scaled_sum.nd rfl (Or.inl rfl) (pe_op op_add (pe_op op_mulB (pv 4) (pv 1)) (pe_op op_shl (pe_ix ix_list (pv 0) (pv 5) (fun _ _ => rfl)) (pe_op op_mulB (pv 2) (pe_op op_sub (pv 3) (pv 5))))))))
    (pss_one (ps_ret (pv 4)))))), ?_⟩
    have lm := map_len (f := V.int) (xs := fl)
    walk_at "rd"
    rw [lm]
    refine ⟨_, _, _, _, rfl, RgC.neg (by omega) (by omega) (by omega) (by omega), for_rangeC (lo := (fl.length : Int) - 1) (c := -1) (fun i σ H' => H' = H ∧ ∃ u, σ = [some (.ref p), some (.int x), some (.int b), some (.int ((fl.length : Int) - 1)), some (.int (hor fl x b.toNat i)), u]) ⟨rfl, _, rfl⟩ ?_ ?_⟩
    · rintro i σ H' hi ⟨rfl, u, rfl⟩
      have hi2 : i < fl.length := by omega
      have cm := hor_cm (b := b.toNat) hc.csz hx (by omega) (by decide) (t := i) (by omega)
      have em : (fl.length : Int) - 1 - ((fl.length : Int) - 1 + (i : Int) * -1) = i := by omega
      walk_at "rd"
      refine ixL_go hF (atI_cl (fl.length - 1 - i) (by omega) (by omega)) ?_
      have c2 : CM b ((fl.length : Int) - 1 - ((fl.length : Int) - 1 + (i : Int) * -1)) := CM.of (m := 64) (n := 64) ⟨by omega⟩ ⟨by omega⟩
      have e2 : b * ((fl.length : Int) - 1 - ((fl.length : Int) - 1 + (i : Int) * -1)) = ((b.toNat * i : Nat) : Int) := by
        rw [em, Int.natCast_mul, Int.toNat_of_nonneg b0]
      have hsh : CPow (cell fl (fl.length - 1 - i)) (b * ((fl.length : Int) - 1 - ((fl.length : Int) - 1 + (i : Int) * -1))) := by
        rw [e2]
        have h1 : b.toNat * i ≤ 100 * 481 := Nat.mul_le_mul (by omega) (by omega)
        have h2 := (hc.csz (fl.length - 1 - i)).lt
        exact ⟨by omega, by omega, by omega⟩
      walk_at "rd"
      refine ⟨some (.int ((fl.length : Int) - 1 + (i : Int) * -1)), ?_⟩
      rw [show hor fl x b.toNat (i + 1) = hor fl x b.toNat i * x + cell fl (fl.length - 1 - i) * 2 ^ (b * ((fl.length : Int) - 1 - ((fl.length : Int) - 1 + (i : Int) * -1))).toNat from by rw [e2, Int.toNat_natCast]; rfl]
      rfl
    · rintro σ H' ⟨rfl, u, rfl⟩
      walk_at "rd"
      rw [show ((fl.length : Int) - 1 - -1).toNat = fl.length by omega]
      exact q
theorem scaled_sum_go {H : Hp} {Q : VK} {E : XK} {p : Addr} {fl : List Int} {x : Int} {b : Int} (hF : SqL K H p (fl.map V.int)) (hc : Small fl) (n1 : 1 ≤ fl.length) (n2 : fl.length ≤ 481) (hx : Sz 200 x) (b0 : 0 ≤ b) (b1 : b ≤ 100) (q : Q (.int (hor fl x b.toNat fl.length)) H) : sp_scaled_sum K [.ref p, .int x, .int b] H Q E := by
  unfold sp_scaled_sum
  exact ⟨p, fl, x, b, rfl, hF, hc, n1, n2, hx, b0, b1, q⟩
local macro_rules | `(tactic| walk_at "call") => `(tactic| (apply scaled_sum_go; (walk_at "sq"); (first | assumption | omega); (first | assumption | omega); (first | assumption | omega); (first | assumption | exact Sz.mk (n := 200) (by omega)); (first | assumption | omega); (first | assumption | omega)))

/-! ### check_factor -/
@[irreducible] def sp_check_factor (K : PySem.W.Frag) : Sp := fun vs H Q E => ∃ (p : Addr) (fl : List Int) (t : Addr) (v0 : V) (v1 : V) (v2 : V) (v3 : V), vs = [.ref p, .ref t] ∧ (SqL K H p (fl.map V.int)) ∧ (Flows fl) ∧ (SqT K H t [v0, v1, v2, v3]) ∧ (partV v0 = true) ∧ (partV v1 = true) ∧ (partV v2 = true) ∧ (partV v3 = true) ∧ (∀ n, v0 = .int n → Sz 199 n) ∧ (∀ H', Same H H' → Q (.bl (chk fl [v0, v1, v2, v3])) H')
theorem ok_check_factor (T : Txt K mg) : FnOk P w K mg base (L2.CX P w) 4 T.a_check_factor T.fd_check_factor ["flows", "proof"] (sp_check_factor K) := by
  refine T.F_check_factor.ok sc_check_factor (fun vs H Q E h => ?_) (fun cdv A outer s H vs Q E hr h => ?_)
  · unfold sp_check_factor at h
    obtain ⟨p, fl, t, v0, v1, v2, v3, rfl, _⟩ := h
    rfl
  · unfold sp_check_factor at h
    obtain ⟨p, fl, t, v0, v1, v2, v3, rfl, hF, F, hT, k0, k1, k2, k3, hs, q⟩ := h
    refine ⟨_, (pss_cons (ps_expr (pe_callS (ok_check_flows T) (hr.mono (by decide)) rfl T.m_check_flows T.F_check_flows.kp T.b_check_flows (fun σ => passAt (takes_of rfl rfl rfl rfl) σ) (pa_cons (pv 0) pa_nil)))
    (pss_cons (ps_if (pt_cmpR op_ne (pe_callB call_ln rfl T.z_len bt_len (pa_cons (pv 1) pa_nil)) pe_int (nomark _)) (pss_one (ps_ret pe_bl)) pss_nil)
    (pss_cons (ps_for (passes_of rfl) rfl (pi_tup (pv 1)) (pg_name (i := 2) sc_check_factor.nd rfl (Or.inl rfl))
      (pss_one (ps_if (PW.pt (pw_or (pt_not (pt_val (pe_callB call_is rfl T.z_isinstance bt_isinstance (pa_cons (pv 2) (pa_cons (pe_bltn (v := .ty "int") rfl T.z_int bt_int rfl) pa_nil))))) (pw_or1 (pt_val (pe_callB call_is rfl T.z_isinstance bt_isinstance (pa_cons (pv 2) (pa_cons (pe_bltn (v := .ty "bool") rfl T.z_bool bt_bool rfl) pa_nil))))))) (pss_one (ps_ret pe_bl)) pss_nil)))
    (pss_cons (ps_asg (pv 1) (pg_tup rfl (pgs_cons (pg_name (i := 3) sc_check_factor.nd rfl (Or.inl rfl)) (pgs_cons (pg_name (i := 4) sc_check_factor.nd rfl (Or.inl rfl)) (pgs_cons (pg_name (i := 5) sc_check_factor.nd rfl (Or.inl rfl)) (pgs_cons (pg_name (i := 6) sc_check_factor.nd rfl (Or.inl rfl)) pgs_nil))))))
    (pss_cons (ps_if (PW.pt (pw_or (pt_cmpR op_lt (pv 3) pe_int (nomark _)) (pw_or (pt_cmpR op_lt (pv 4) pe_int (nomark _)) (pw_or (pt_cmpR op_gt (pv 4) (pe_glob (v := .int 40) rfl T.m_MOST_BITS.choose_spec ⟨_, rfl⟩) (nomark _)) (pw_or (pt_cmpR op_gt (pv 5) pe_int (nomark _)) (pw_or1 (pt_cmpR op_le (pv 6) pe_int (nomark _)))))))) (pss_one (ps_ret pe_bl)) pss_nil)
    (pss_one (ps_ret (pe_and (pe_cmpR op_eq (pe_callS (ok_scaled_sum T) (hr.mono (by decide)) rfl T.m_scaled_sum T.F_scaled_sum.kp T.b_scaled_sum (fun σ => passAt (takes_of rfl rfl rfl rfl) σ) (pa_cons (pv 0) (pa_cons (pv 3) (pa_cons (pv 4) pa_nil)))) (pv 5) (nomark _)) (pe_one (pe_cmpR op_eq (pe_callS (ok_scaled_sum T) (hr.mono (by decide)) rfl T.m_scaled_sum T.F_scaled_sum.kp T.b_scaled_sum (fun σ => passAt (takes_of rfl rfl rfl rfl) σ) (pa_cons (pv 0) (pa_cons (pe_op op_add (pv 3) pe_int) (pa_cons (pv 4) pa_nil)))) (pv 6) (nomark _))))))))))), ?_⟩
    walk_at "rd"
    refine check_flows_go T hF (fun v h => by rw [err_none F] at h; cases h) fun _ H1 s1 => ?_
    have F1 := same_lst s1 hF
    have T1 := same_tup s1 hT
    walk_at "rd"
    have step : ∀ v, partV v = true → (∃ i, v = .int i) ∨ (∃ z, v = .str z) ∨ v = .non := fun v hv => by
      cases v <;> first | exact .inl ⟨_, rfl⟩ | exact .inr (.inl ⟨_, rfl⟩) | exact .inr (.inr rfl) | (cases hv)
    refine ⟨⟨_, T1⟩, for_tup (xs := [v0, v1, v2, v3]) (fun i σ H' => Wall (H' = H1 ∧ ∃ u n b lo hi, σ = [some (.ref p), some (.ref t), u, n, b, lo, hi] ∧ ∀ j, j < i → ∀ v, [v0, v1, v2, v3][j]? = some v → ∃ i, v = .int i)) (wall ⟨rfl, _, _, _, _, _, rfl, fun j h => absurd h (Nat.not_lt_zero j)⟩) (fun i σ H' _ h => (h.get trivial).1 ▸ T1) ?_ ?_⟩
    · rintro i x σ H' hx ⟨w1⟩
      obtain ⟨rfl, u, un, ub, ul, uh, rfl, hb⟩ := w1 trivial
      obtain ⟨kx, cx⟩ : partV x = true ∧ ((∀ i, x ≠ .int i) → chk fl [v0, v1, v2, v3] = false) := by
        match i, hx with
        | 0, h => cases h; exact ⟨k0, fun z => by rcases step _ k0 with ⟨i, rfl⟩ | ⟨i, rfl⟩ | rfl <;> first | exact (z _ rfl).elim | rfl⟩
        | 1, h => cases h; exact ⟨k1, fun z => by rcases step _ k0 with ⟨i, rfl⟩ | ⟨i, rfl⟩ | rfl <;> rcases step _ k1 with ⟨i, rfl⟩ | ⟨i, rfl⟩ | rfl <;> first | exact (z _ rfl).elim | rfl⟩
        | 2, h => cases h; exact ⟨k2, fun z => by rcases step _ k0 with ⟨i, rfl⟩ | ⟨i, rfl⟩ | rfl <;> rcases step _ k1 with ⟨i, rfl⟩ | ⟨i, rfl⟩ | rfl <;> rcases step _ k2 with ⟨i, rfl⟩ | ⟨i, rfl⟩ | rfl <;> first | exact (z _ rfl).elim | rfl⟩
        | 3, h => cases h; exact ⟨k3, fun z => by rcases step _ k0 with ⟨i, rfl⟩ | ⟨i, rfl⟩ | rfl <;> rcases step _ k1 with ⟨i, rfl⟩ | ⟨i, rfl⟩ | rfl <;> rcases step _ k2 with ⟨i, rfl⟩ | ⟨i, rfl⟩ | rfl <;> rcases step _ k3 with ⟨i, rfl⟩ | ⟨i, rfl⟩ | rfl <;> first | exact (z _ rfl).elim | rfl⟩
      rcases step _ kx with ⟨z, rfl⟩ | ⟨z, rfl⟩ | rfl
      · walk_at "rd"
        refine wall ⟨rfl, _, _, _, _, _, rfl, fun j hj v hv => ?_⟩
        by_cases ej : j = i
        · subst ej
          rw [hx] at hv
          cases hv
          exact ⟨_, rfl⟩
        · exact hb j (by omega) v hv
      · walk_at "rd"
        have qq := q H' s1
        rw [cx (fun i h => by cases h)] at qq
        exact qq
      · walk_at "rd"
        have qq := q H' s1
        rw [cx (fun i h => by cases h)] at qq
        exact qq
    rintro σ H' ⟨w1⟩
    obtain ⟨rfl, u, un, ub, ul, uh, rfl, hb⟩ := w1 trivial
    obtain ⟨n, rfl⟩ := hb 0 (by show 0 < 4; decide) v0 rfl
    obtain ⟨b, rfl⟩ := hb 1 (by show 1 < 4; decide) v1 rfl
    obtain ⟨lo, rfl⟩ := hb 2 (by show 2 < 4; decide) v2 rfl
    obtain ⟨hi, rfl⟩ := hb 3 (by show 3 < 4; decide) v3 rfl
    have sn := hs n rfl
    have sn1 : Sz 200 n := sn.mono (by decide)
    have sn2 : Sz 200 (n + 1) := ⟨by have := sn.lt; omega⟩
    have hc := F.small
    have n1 := F.n2
    have n2 := F.n3
    have qq := q H' s1
    have e : chk fl [.int n, .int b, .int lo, .int hi] = (decide (0 ≤ n) && (decide (1 ≤ b) && (decide (b ≤ 40) && (decide (lo ≤ 0) && (decide (0 < hi) && (decide (hor fl n b.toNat fl.length = lo) && decide (hor fl (n + 1) b.toNat fl.length = hi))))))) := rfl
    rw [e] at qq
    clear q e
    walk_at "rd"
    refine iteD (fun c => ?_) (fun c => ?_)
    · walk_at "rd"
      rw [decide_eq_false (show ¬ 0 ≤ n by omega)] at qq
      exact qq
    rw [decide_eq_true (show 0 ≤ n by omega)] at qq
    walk_at "rd"
    refine iteD (fun c => ?_) (fun c => ?_)
    · walk_at "rd"
      rw [decide_eq_false (show ¬ 1 ≤ b by omega)] at qq
      exact qq
    rw [decide_eq_true (show 1 ≤ b by omega)] at qq
    walk_at "rd"
    refine iteD (fun c => ?_) (fun c => ?_)
    · walk_at "rd"
      rw [decide_eq_false (show ¬ b ≤ 40 by omega)] at qq
      exact qq
    rw [decide_eq_true (show b ≤ 40 by omega)] at qq
    walk_at "rd"
    refine iteD (fun c => ?_) (fun c => ?_)
    · walk_at "rd"
      rw [decide_eq_false (show ¬ lo ≤ 0 by omega)] at qq
      exact qq
    rw [decide_eq_true (show lo ≤ 0 by omega)] at qq
    walk_at "rd"
    refine iteD (fun c => ?_) (fun c => ?_)
    · walk_at "rd"
      rw [decide_eq_false (show ¬ 0 < hi by omega)] at qq
      exact qq
    rw [decide_eq_true (show 0 < hi by omega)] at qq
    have b0 : 0 ≤ b := by omega
    have b1 : b ≤ 100 := by omega
    walk_at "rd"
    refine iteI (fun c => ?_) (fun c => ?_)
    · rw [decide_eq_true c] at qq
      walk_at "rd"
      rw [show decide (V.int (hor fl (n + 1) b.toNat fl.length) = V.int hi) = decide (hor fl (n + 1) b.toNat fl.length = hi) by simp]
      exact qq
    · rw [decide_eq_false c] at qq
      exact qq
theorem check_factor_go {H : Hp} {Q : VK} {E : XK} {p : Addr} {fl : List Int} {t : Addr} {v0 : V} {v1 : V} {v2 : V} {v3 : V} (hF : SqL K H p (fl.map V.int)) (F : Flows fl) (hT : SqT K H t [v0, v1, v2, v3]) (k0 : partV v0 = true) (k1 : partV v1 = true) (k2 : partV v2 = true) (k3 : partV v3 = true) (hs : ∀ n, v0 = .int n → Sz 199 n) (q : ∀ H', Same H H' → Q (.bl (chk fl [v0, v1, v2, v3])) H') : sp_check_factor K [.ref p, .ref t] H Q E := by
  unfold sp_check_factor
  exact ⟨p, fl, t, v0, v1, v2, v3, rfl, hF, F, hT, k0, k1, k2, k3, hs, q⟩
local macro_rules | `(tactic| walk_at "call") => `(tactic| (apply check_factor_go; (walk_at "sq"); (first | assumption | omega); (walk_at "sq"); (first | assumption | rfl); (first | assumption | rfl); (first | assumption | rfl); (first | assumption | rfl); (first | assumption | omega)))

/-! ### law -/
theorem ok_law (T : Txt K mg) : FnOk P w K mg base (L2.CX P w) 6 T.a_law T.fd_law ["script"] (sp_law K) := by
  refine T.F_law.ok sc_law (fun vs H Q E h => ?_) (fun cdv A outer s H vs Q E hr h => ?_)
  · obtain ⟨l, ns, rfl, _⟩ := h
    rfl
  · obtain ⟨l, ns, rfl, hs, hn, hb, q⟩ := h
    refine ⟨_, (pss_cons (ps_set (i := 1) sc_law.nd rfl (Or.inl rfl) (pe_callS (ok__law_flows T) (hr.mono (by decide)) rfl T.m__law_flows T.F__law_flows.kp T.b__law_flows (fun σ => passAt (takes_of rfl rfl rfl rfl) σ) (pa_cons (pv 0) pa_nil)))
    (pss_cons (ps_cut (ps_if (pt_cmpR op_gt (pe_callB call_ln rfl T.z_len bt_len (pa_cons (pv 1) pa_nil)) pe_int (nomark _)) (pss_cons (ps_set (i := 1) sc_law.nd rfl (Or.inl rfl) (pe_slice sl_list (pv 1) po_none (po_some pe_int)))
      (pss_one (ps_asg (pe_callB (call_mx rfl) rfl T.z_max bt_max (pa_cons pe_int (pa_cons (pe_ix ix_list (pv 1) pe_int (fun _ _ => rfl)) pa_nil))) (pg_sub (pv 1) pe_int set_li)))) pss_nil))
    (pss_cons (ps_cut (ps_set (i := 2) sc_law.nd rfl (Or.inl rfl) (pe_op op_add pe_int (pe_op op_mod (pe_callTy call_int1 rfl T.z_int bt_int (pa_cons (pe_callS (ok__law_cell T) (hr.mono (by decide)) rfl T.m__law_cell T.F__law_cell.kp T.b__law_cell (fun σ => passAt (takes_of rfl rfl rfl rfl) σ) (pa_cons (pv 0) (pa_cons pe_int pa_nil))) pa_nil)) pe_int))))
    (pss_cons (ps_set (i := 3) sc_law.nd rfl (Or.inl rfl) (pe_callS (ok__law_place T) (hr.mono (by decide)) rfl T.m__law_place T.F__law_place.kp T.b__law_place (fun σ => passAt (takes_of rfl rfl rfl rfl) σ) (pa_cons (pv 1) (pa_cons (pv 2) pa_nil))))
    (pss_cons (ps_set (i := 4) sc_law.nd rfl (Or.inl rfl) (pe_callS (ok__law_sum_at T) (hr.mono (by decide)) rfl T.m__law_sum_at T.F__law_sum_at.kp T.b__law_sum_at (fun σ => passAt (takes_of rfl rfl rfl rfl) σ) (pa_cons (pv 1) (pa_cons (pv 3) (pa_cons (pv 2) pa_nil)))))
    (pss_cons (ps_set (i := 5) sc_law.nd rfl (Or.inl rfl) (pe_callS (ok__law_sum_at T) (hr.mono (by decide)) rfl T.m__law_sum_at T.F__law_sum_at.kp T.b__law_sum_at (fun σ => passAt (takes_of rfl rfl rfl rfl) σ) (pa_cons (pv 1) (pa_cons (pe_op op_add (pv 3) pe_int) (pa_cons (pv 2) pa_nil)))))
    (pss_cons (ps_cut (ps_set (i := 6) sc_law.nd rfl (Or.inl rfl) (pe_op op_add pe_int (pe_op op_mod (pe_callTy call_int1 rfl T.z_int bt_int (pa_cons (pe_callS (ok__law_cell T) (hr.mono (by decide)) rfl T.m__law_cell T.F__law_cell.kp T.b__law_cell (fun σ => passAt (takes_of rfl rfl rfl rfl) σ) (pa_cons (pv 0) (pa_cons pe_int pa_nil))) pa_nil)) pe_int))))
    (pss_cons (ps_if (pt_cmpR op_notB (pe_callS (ok_check_factor T) (hr.mono (by decide)) rfl T.m_check_factor T.F_check_factor.kp T.b_check_factor (fun σ => passAt (takes_of rfl rfl rfl rfl) σ) (pa_cons (pe_callTy call_lo rfl T.z_list bt_list (pa_cons (pv 1) pa_nil)) (pa_cons (pe_tup (pa_cons (pv 3) (pa_cons (pv 2) (pa_cons (pv 4) (pa_cons (pv 5) pa_nil))))) pa_nil))) pe_bl (nomark _)) (pss_one (ps_ret pe_bl)) pss_nil)
    (pss_cons (ps_cut (ps_set (i := 7) sc_law.nd rfl (Or.inl rfl) (pe_lst (pa_cons (pe_tup (pa_cons (pe_op op_add (pv 3) pe_int) (pa_cons (pv 2) (pa_cons (pv 4) (pa_cons (pv 5) pa_nil))))) (pa_cons (pe_tup (pa_cons (pv 3) (pa_cons (pv 2) (pa_cons (pe_op op_sub (pv 4) (pv 6)) (pa_cons (pv 5) pa_nil))))) (pa_cons (pe_tup (pa_cons (pv 3) (pa_cons (pv 2) (pa_cons (pv 4) (pa_cons (pe_op op_add (pv 5) (pv 6)) pa_nil))))) (pa_cons (pe_tup (pa_cons (pv 3) (pa_cons (pv 2) (pa_cons (pe_op op_sub (pv 4) pe_int) (pa_cons (pv 5) pa_nil))))) pa_nil)))))))
    (pss_cons (ps_cut (ps_expr (pe_bm PySem.F.plainAttrs_list PySem.F.slot_list_append PySem.F.type_list_append mt_app (pv 7) (pa_cons (pe_tup (pa_cons (pv 3) (pa_cons (pv 2) (pa_cons (pv 4) (pa_cons (pe_op op_add (pv 5) pe_int) pa_nil))))) pa_nil))))
    (pss_cons (ps_cut (ps_expr (pe_bm PySem.F.plainAttrs_list PySem.F.slot_list_append PySem.F.type_list_append mt_app (pv 7) (pa_cons (pe_tup (pa_cons (pe_op op_add (pv 3) pe_int) (pa_cons (pv 2) (pa_cons (pv 5) (pa_cons (pe_callS (ok__law_sum_at T) (hr.mono (by decide)) rfl T.m__law_sum_at T.F__law_sum_at.kp T.b__law_sum_at (fun σ => passAt (takes_of rfl rfl rfl rfl) σ) (pa_cons (pv 1) (pa_cons (pe_op op_add (pv 3) pe_int) (pa_cons (pv 2) pa_nil)))) pa_nil))))) pa_nil))))
    (pss_cons (ps_cut (ps_if (pt_cmpR op_gt (pv 5) pe_int (nomark _)) (pss_one (ps_cut (ps_expr (pe_bm PySem.F.plainAttrs_list PySem.F.slot_list_append PySem.F.type_list_append mt_app (pv 7) (pa_cons (pe_tup (pa_cons (pv 3) (pa_cons (pv 2) (pa_cons (pv 4) (pa_cons (pe_op op_sub (pv 5) pe_int) pa_nil))))) pa_nil))))) pss_nil))
    (pss_cons (ps_cut (ps_if (pt_cmpR op_gt (pv 3) pe_int (nomark _)) (pss_cons (ps_cut (ps_expr (pe_bm PySem.F.plainAttrs_list PySem.F.slot_list_append PySem.F.type_list_append mt_app (pv 7) (pa_cons (pe_tup (pa_cons (pe_op op_sub (pv 3) pe_int) (pa_cons (pv 2) (pa_cons (pv 4) (pa_cons (pv 5) pa_nil))))) pa_nil))))
      (pss_cons (ps_cut (ps_if (pt_cmpR op_lt (pv 4) pe_int (nomark _)) (pss_one (ps_cut (ps_expr (pe_bm PySem.F.plainAttrs_list PySem.F.slot_list_append PySem.F.type_list_append mt_app (pv 7) (pa_cons (pe_tup (pa_cons (pe_op op_sub (pv 3) pe_int) (pa_cons (pv 2) (pa_cons (pe_callS (ok__law_sum_at T) (hr.mono (by decide)) rfl T.m__law_sum_at T.F__law_sum_at.kp T.b__law_sum_at (fun σ => passAt (takes_of rfl rfl rfl rfl) σ) (pa_cons (pv 1) (pa_cons (pe_op op_sub (pv 3) pe_int) (pa_cons (pv 2) pa_nil)))) (pa_cons (pv 4) pa_nil))))) pa_nil))))) pss_nil))
      (pss_one (ps_cut (ps_if (pt_cmpR op_eq (pv 4) pe_int (nomark _)) (pss_one (ps_cut (ps_expr (pe_bm PySem.F.plainAttrs_list PySem.F.slot_list_append PySem.F.type_list_append mt_app (pv 7) (pa_cons (pe_tup (pa_cons (pe_op op_sub (pv 3) pe_int) (pa_cons (pv 2) (pa_cons (pe_callS (ok__law_sum_at T) (hr.mono (by decide)) rfl T.m__law_sum_at T.F__law_sum_at.kp T.b__law_sum_at (fun σ => passAt (takes_of rfl rfl rfl rfl) σ) (pa_cons (pv 1) (pa_cons (pe_op op_sub (pv 3) pe_int) (pa_cons (pv 2) pa_nil)))) (pa_cons pe_int pa_nil))))) pa_nil))))) pss_nil))))) pss_nil))
    (pss_cons (ps_cut (ps_expr (pe_bm PySem.F.plainAttrs_list PySem.F.slot_list_append PySem.F.type_list_append mt_app (pv 7) (pa_cons (pe_tup (pa_cons (pv 3) (pa_cons (pe_op op_add (pv 2) pe_int) (pa_cons (pv 4) (pa_cons (pv 5) pa_nil))))) pa_nil))))
    (pss_cons (ps_cut (ps_if (pt_cmpR op_gt (pv 2) pe_int (nomark _)) (pss_one (ps_cut (ps_expr (pe_bm PySem.F.plainAttrs_list PySem.F.slot_list_append PySem.F.type_list_append mt_app (pv 7) (pa_cons (pe_tup (pa_cons (pv 3) (pa_cons (pe_op op_sub (pv 2) pe_int) (pa_cons (pv 4) (pa_cons (pv 5) pa_nil))))) pa_nil))))) pss_nil))
    (pss_cons (ps_cut (ps_expr (pe_bm PySem.F.plainAttrs_list PySem.F.slot_list_append PySem.F.type_list_append mt_app (pv 7) (pa_cons (pe_tup (pa_cons (pv 3) (pa_cons (pv 2) (pa_cons (pv 5) (pa_cons (pv 4) pa_nil))))) pa_nil))))
    (pss_cons (ps_cut (ps_expr (pe_bm PySem.F.plainAttrs_list PySem.F.slot_list_append PySem.F.type_list_append mt_app (pv 7) (pa_cons (pe_tup (pa_cons (pe_callTy call_str_int rfl T.z_str bt_str (pa_cons (pv 3) pa_nil)) (pa_cons (pv 2) (pa_cons (pv 4) (pa_cons (pv 5) pa_nil))))) pa_nil))))
    (pss_cons (ps_cut (ps_expr (pe_bm PySem.F.plainAttrs_list PySem.F.slot_list_append PySem.F.type_list_append mt_app (pv 7) (pa_cons (pe_tup (pa_cons (pv 3) (pa_cons pe_non (pa_cons (pv 4) (pa_cons (pv 5) pa_nil))))) pa_nil))))
    (pss_cons (ps_cut (ps_expr (pe_bm PySem.F.plainAttrs_list PySem.F.slot_list_append PySem.F.type_list_append mt_app (pv 7) (pa_cons (pe_tup (pa_cons (pv 3) (pa_cons (pv 2) (pa_cons (pe_callTy call_str_int rfl T.z_str bt_str (pa_cons (pv 4) pa_nil)) (pa_cons (pv 5) pa_nil))))) pa_nil))))
    (pss_cons (ps_cut (ps_expr (pe_bm PySem.F.plainAttrs_list PySem.F.slot_list_append PySem.F.type_list_append mt_app (pv 7) (pa_cons (pe_tup (pa_cons (pv 3) (pa_cons (pv 2) (pa_cons (pv 4) (pa_cons pe_non pa_nil))))) pa_nil))))
    (pss_cons (ps_cut (ps_expr (pe_bm PySem.F.plainAttrs_list PySem.F.slot_list_append PySem.F.type_list_append mt_app (pv 7) (pa_cons (pe_tup (pa_cons (pe_op op_sub (pe_op op_sub pe_int pe_int) (pv 3)) (pa_cons (pv 2) (pa_cons (pv 4) (pa_cons (pv 5) pa_nil))))) pa_nil))))
    (pss_cons (ps_cut (ps_expr (pe_bm PySem.F.plainAttrs_list PySem.F.slot_list_append PySem.F.type_list_append mt_app (pv 7) (pa_cons (pe_tup (pa_cons (pv 3) (pa_cons pe_int (pa_cons (pv 4) (pa_cons (pv 5) pa_nil))))) pa_nil))))
    (pss_cons (ps_cut (ps_expr (pe_bm PySem.F.plainAttrs_list PySem.F.slot_list_append PySem.F.type_list_append mt_app (pv 7) (pa_cons (pe_tup (pa_cons (pv 3) (pa_cons pe_int (pa_cons (pv 4) (pa_cons (pv 5) pa_nil))))) pa_nil))))
    (pss_cons (ps_for (passes_of rfl) rfl (pi_list (pv 7)) (pg_name (i := 8) sc_law.nd rfl (Or.inl rfl))
      (pss_one (ps_if (pt_cmpR op_notB (pe_callS (ok_check_factor T) (hr.mono (by decide)) rfl T.m_check_factor T.F_check_factor.kp T.b_check_factor (fun σ => passAt (takes_of rfl rfl rfl rfl) σ) (pa_cons (pe_callTy call_lo rfl T.z_list bt_list (pa_cons (pv 1) pa_nil)) (pa_cons (pv 8) pa_nil))) pe_bl (nomark _)) (pss_one (ps_ret pe_bl)) pss_nil)))
    (pss_cons (ps_set (i := 9) sc_law.nd rfl (Or.inl rfl) (pe_op op_add (pv 2) pe_int))
    (pss_cons (ps_cut (ps_if (pt_cmpR op_gt (pv 9) pe_int (nomark _)) (pss_one (ps_set (i := 9) sc_law.nd rfl (Or.inl rfl) pe_int)) pss_nil))
    (pss_cons (ps_set (i := 10) sc_law.nd rfl (Or.inl rfl) (pe_callS (ok__law_place T) (hr.mono (by decide)) rfl T.m__law_place T.F__law_place.kp T.b__law_place (fun σ => passAt (takes_of rfl rfl rfl rfl) σ) (pa_cons (pv 1) (pa_cons (pv 9) pa_nil))))
    (pss_cons (ps_set (i := 11) sc_law.nd rfl (Or.inl rfl) (pe_tup (pa_cons (pv 10) (pa_cons (pv 9) (pa_cons (pe_callS (ok__law_sum_at T) (hr.mono (by decide)) rfl T.m__law_sum_at T.F__law_sum_at.kp T.b__law_sum_at (fun σ => passAt (takes_of rfl rfl rfl rfl) σ) (pa_cons (pv 1) (pa_cons (pv 10) (pa_cons (pv 9) pa_nil)))) (pa_cons (pe_callS (ok__law_sum_at T) (hr.mono (by decide)) rfl T.m__law_sum_at T.F__law_sum_at.kp T.b__law_sum_at (fun σ => passAt (takes_of rfl rfl rfl rfl) σ) (pa_cons (pv 1) (pa_cons (pe_op op_add (pv 10) pe_int) (pa_cons (pv 9) pa_nil)))) pa_nil))))))
    (pss_one (ps_ret (pe_cmpR op_isB (pe_callS (ok_check_factor T) (hr.mono (by decide)) rfl T.m_check_factor T.F_check_factor.kp T.b_check_factor (fun σ => passAt (takes_of rfl rfl rfl rfl) σ) (pa_cons (pe_callTy call_lo rfl T.z_list bt_list (pa_cons (pv 1) pa_nil)) (pa_cons (pv 11) pa_nil))) pe_bl (nomark _)))))))))))))))))))))))))))))))), ?_⟩
    walk_at "rd"
    intro fl r H1 F s1 hr1 e1
    have hs1 := same_lst s1 hs
    have F1 := l_of (K := K) e1
    have lm := map_len (f := V.int) (xs := fl)
    have n1 := F.n2
    have n2 := F.n3
    walk_at "rd"
    refine ⟨fun σ' H' => Wall (∃ (fl : List Int) (r : Addr), Flows fl ∧ fl.length ≤ 40 ∧ SqL K H' l (ns.map V.int) ∧ SqL K H' r (fl.map V.int) ∧ σ' = [some (.ref l), some (.ref r), none, none, none, none, none, none, none, none, none, none]), ?_, ?_⟩
    · walk_at "rd"
      rw [lm]
      refine iteD (fun c => ?_) (fun c => ?_)
      · walk_at "rd"
        rename_i p hp
        rw [show (40 : Int) = ((40 : Nat) : Int) from rfl, cut_to (by omega)]
        have P2 := l_of (K := K) (upd_same (H := H1) (a := p) (o := .lst ((fl.take 40).map V.int)))
        have lt : (fl.take 40).length = 40 := by
          rw [List.length_take]
          omega
        have hi39 := F.hi 39
        have hc39 : cell (fl.take 40) 39 = cell fl 39 := by rw [cell_take, if_pos (by decide)]
        refine ixL_go P2 (atI_cl 39 (by omega) rfl) ?_
        rw [hc39]
        walk_at "rd"
        refine setL_go upd_same (ixN_nat 39 (by rw [List.length_map]; omega) rfl) ?_
        rw [map_setI, LB.upd_upd]
        exact wall ⟨_, p, F.cut (by omega) (by split <;> omega) (by split <;> omega), by rw [List.length_set]; omega, lst_upd hp hs1, l_of upd_same, rfl⟩
      · exact wall ⟨fl, r, F, by omega, hs1, F1, rfl⟩
    clear F F1 hs1 s1 hr1 e1 lm n1 n2
    rintro _ H2 ⟨w2⟩
    obtain ⟨fl, r, F, f40, hs2, F2, rfl⟩ := w2 trivial
    clear w2
    have n1 := F.n2
    have n2 := F.n3
    have hc := F.small
    refine ⟨fun σ' H' => Wall (H' = H2 ∧ ∃ b : Int, 1 ≤ b ∧ b ≤ 40 ∧ σ' = [some (.ref l), some (.ref r), some (.int b), none, none, none, none, none, none, none, none, none]), ?_, ?_⟩
    · walk_at "rd"
      exact wall ⟨rfl, _, by omega, by omega, rfl⟩
    rintro _ H' ⟨w3⟩
    obtain ⟨rfl, b, b0, b1, rfl⟩ := w3 trivial
    clear w3
    have b2 : b ≤ 41 := by omega
    have b3 : b ≤ 100 := by omega
    have b4 : 0 ≤ b := by omega
    walk_at "rd"
    intro k hP hk
    have k0 := hP.1
    have k1 := hP.2.1
    have k2 := hP.2.2
    have sk : Sz 200 k := ⟨by omega⟩
    have sk1 : Sz 200 (k + 1) := ⟨by omega⟩
    have lk : k.natAbs.log2 < 1920 := Nat.lt_of_le_of_lt sk.log (by decide)
    have ll := hor_low (b := b.toNat) F k0 f40 (by omega) k1
    walk_at "rd"
    refine ⟨fun σ' H2 => Wall (H2 = H' ∧ ∃ by_ : Int, 1 ≤ by_ ∧ σ' = [some (.ref l), some (.ref r), some (.int b), some (.int k), some (.int (hor fl k b.toNat fl.length)), some (.int (hor fl (k + 1) b.toNat fl.length)), some (.int by_), none, none, none, none, none]), ?_, ?_⟩
    · walk_at "rd"
      exact wall ⟨rfl, _, by omega, rfl⟩
    rintro _ H2 ⟨w4⟩
    obtain ⟨rfl, by_, by0, rfl⟩ := w4 trivial
    clear w4
    walk_at "rd"
    rename_i c1 hc1 t1 ht1
    refine check_factor_go (by walk_at "sq") F (by walk_at "sq") rfl rfl rfl rfl (fun n e => by cases e; exact ⟨by omega⟩) fun H3 s3 => ?_
    rw [chk_ok hP b0 b1]
    walk_at "rd"
    have R3 := same_lst s3 (lst_upd ht1 (lst_upd hc1 F2))
    have hs3 := same_lst s3 (lst_upd ht1 (lst_upd hc1 hs2))
    clear F2 hs2 s3
    refine ⟨fun σ' H' => Wall (∃ (H0 : Hp) (D : Addr), SqL K H0 r (fl.map V.int) ∧ H0 D = none ∧ (∃ (refs : List V), Same H0 H' ∧ H' D = some (.lst refs) ∧ (∀ v ∈ refs, BadP K fl H' v) ∧ refs.length ≤ 4 ∧ σ' = [some (.ref l), some (.ref r), some (.int b), some (.int k), some (.int (hor fl k b.toNat fl.length)), some (.int (hor fl (k + 1) b.toNat fl.length)), some (.int by_), some (.ref D), none, none, none, none])), ?_, ?_⟩
    · walk_at "rd"
      rename_i q1 h1 q2 h2 q3 h3 q4 h4 D hD
      refine wall ⟨_, D, lst_upd h4 (lst_upd h3 (lst_upd h2 (lst_upd h1 R3))), hD, [.ref q1, .ref q2, .ref q3, .ref q4], same_new (Same.refl _) hD, upd_same, fun v hv => ?_, Nat.le_refl 4, rfl⟩
      simp only [List.mem_cons, List.not_mem_nil, or_false] at hv
      rcases hv with rfl | rfl | rfl | rfl
      · exact ⟨_, _, _, _, _, rfl, by walk_at "sq", bad_int ⟨by omega⟩ (fun h => by obtain ⟨h1, h2, h3, h4, h5, h6, h7⟩ := h; omega)⟩
      · exact ⟨_, _, _, _, _, rfl, by walk_at "sq", bad_int ⟨by omega⟩ (fun h => by obtain ⟨h1, h2, h3, h4, h5, h6, h7⟩ := h; omega)⟩
      · exact ⟨_, _, _, _, _, rfl, by walk_at "sq", bad_int ⟨by omega⟩ (fun h => by obtain ⟨h1, h2, h3, h4, h5, h6, h7⟩ := h; omega)⟩
      · exact ⟨_, _, _, _, _, rfl, by walk_at "sq", bad_int ⟨by omega⟩ (fun h => by obtain ⟨h1, h2, h3, h4, h5, h6, h7⟩ := h; omega)⟩
    rintro _ H4 ⟨wq⟩
    obtain ⟨H0, D, R0, hD, wq2⟩ := wq trivial
    obtain ⟨refs, sD, eD, hB, hL, rfl⟩ := wq2
    clear wq
    have R' := same_lst sD R0
    have hlen : refs.length < sizeLine := by rw [sizeLine_eq]; omega
    clear R3 hs3
    refine ⟨fun σ' H' => Wall (∃ (refs : List V), Same H0 H' ∧ H' D = some (.lst refs) ∧ (∀ v ∈ refs, BadP K fl H' v) ∧ refs.length ≤ 5 ∧ σ' = [some (.ref l), some (.ref r), some (.int b), some (.int k), some (.int (hor fl k b.toNat fl.length)), some (.int (hor fl (k + 1) b.toNat fl.length)), some (.int by_), some (.ref D), none, none, none, none]), ?_, ?_⟩
    · walk_at "rd"
      rename_i p hp
      exact wall ⟨_, same_set (same_new sD hp) hD, upd_same, bads_app hB hp eD (bad_int ⟨by omega⟩ (fun h => by obtain ⟨h1, h2, h3, h4, h5, h6, h7⟩ := h; omega)), by rw [List.length_append]; exact Nat.add_le_add_right hL 1, rfl⟩
    clear hB hL sD eD R' hlen
    rintro _ H' ⟨wq⟩
    obtain ⟨refs, sD, eD, hB, hL, rfl⟩ := wq trivial
    clear wq
    have R' := same_lst sD R0
    have hlen : refs.length < sizeLine := by rw [sizeLine_eq]; omega
    refine ⟨fun σ' H' => Wall (∃ (refs : List V), Same H0 H' ∧ H' D = some (.lst refs) ∧ (∀ v ∈ refs, BadP K fl H' v) ∧ refs.length ≤ 6 ∧ σ' = [some (.ref l), some (.ref r), some (.int b), some (.int k), some (.int (hor fl k b.toNat fl.length)), some (.int (hor fl (k + 1) b.toNat fl.length)), some (.int by_), some (.ref D), none, none, none, none]), ?_, ?_⟩
    · walk_at "rd"
      rename_i p hp
      exact wall ⟨_, same_set (same_new sD hp) hD, upd_same, bads_app hB hp eD (bad_int ⟨by omega⟩ (fun h => by obtain ⟨h1, h2, h3, h4, h5, h6, h7⟩ := h; omega)), by rw [List.length_append]; exact Nat.add_le_add_right hL 1, rfl⟩
    clear hB hL sD eD R' hlen
    rintro _ H' ⟨wq⟩
    obtain ⟨refs, sD, eD, hB, hL, rfl⟩ := wq trivial
    clear wq
    have R' := same_lst sD R0
    have hlen : refs.length < sizeLine := by rw [sizeLine_eq]; omega
    refine ⟨fun σ' H' => Wall (∃ (refs : List V), Same H0 H' ∧ H' D = some (.lst refs) ∧ (∀ v ∈ refs, BadP K fl H' v) ∧ refs.length ≤ 7 ∧ σ' = [some (.ref l), some (.ref r), some (.int b), some (.int k), some (.int (hor fl k b.toNat fl.length)), some (.int (hor fl (k + 1) b.toNat fl.length)), some (.int by_), some (.ref D), none, none, none, none]), ?_, ?_⟩
    · walk_at "rd"
      refine iteD (fun c => ?_) (fun c => ?_)
      · refine ⟨_, ?_, fun _ _ h => h⟩
        walk_at "rd"
        rename_i p hp
        exact wall ⟨_, same_set (same_new sD hp) hD, upd_same, bads_app hB hp eD (bad_int ⟨by omega⟩ (fun h => by obtain ⟨h1, h2, h3, h4, h5, h6, h7⟩ := h; omega)), by rw [List.length_append]; exact Nat.add_le_add_right hL 1, rfl⟩
      · exact wall ⟨refs, sD, eD, hB, by omega, rfl⟩
    clear hB hL sD eD R' hlen
    rintro _ H' ⟨wq⟩
    obtain ⟨refs, sD, eD, hB, hL, rfl⟩ := wq trivial
    clear wq
    have R' := same_lst sD R0
    have hlen : refs.length < sizeLine := by rw [sizeLine_eq]; omega
    refine ⟨fun σ' H' => Wall (∃ (refs : List V), Same H0 H' ∧ H' D = some (.lst refs) ∧ (∀ v ∈ refs, BadP K fl H' v) ∧ refs.length ≤ 10 ∧ σ' = [some (.ref l), some (.ref r), some (.int b), some (.int k), some (.int (hor fl k b.toNat fl.length)), some (.int (hor fl (k + 1) b.toNat fl.length)), some (.int by_), some (.ref D), none, none, none, none]), ?_, ?_⟩
    · walk_at "rd"
      refine iteD (fun c => ?_) (fun c => ?_)
      · refine ⟨fun σ' H' => Wall (∃ (refs : List V), Same H0 H' ∧ H' D = some (.lst refs) ∧ (∀ v ∈ refs, BadP K fl H' v) ∧ refs.length ≤ 8 ∧ σ' = [some (.ref l), some (.ref r), some (.int b), some (.int k), some (.int (hor fl k b.toNat fl.length)), some (.int (hor fl (k + 1) b.toNat fl.length)), some (.int by_), some (.ref D), none, none, none, none]), ?_, ?_⟩
        · walk_at "rd"
          rename_i p hp
          exact wall ⟨_, same_set (same_new sD hp) hD, upd_same, bads_app hB hp eD (bad_int ⟨by omega⟩ (fun h => by obtain ⟨h1, h2, h3, h4, h5, h6, h7⟩ := h; rw [Int.sub_add_cancel] at h7; omega)), by rw [List.length_append]; exact Nat.add_le_add_right hL 1, rfl⟩
        clear hB hL sD eD R' hlen
        rintro _ H' ⟨wq⟩
        obtain ⟨refs, sD, eD, hB, hL, rfl⟩ := wq trivial
        clear wq
        have R' := same_lst sD R0
        have hlen : refs.length < sizeLine := by rw [sizeLine_eq]; omega
        refine ⟨fun σ' H' => Wall (∃ (refs : List V), Same H0 H' ∧ H' D = some (.lst refs) ∧ (∀ v ∈ refs, BadP K fl H' v) ∧ refs.length ≤ 9 ∧ σ' = [some (.ref l), some (.ref r), some (.int b), some (.int k), some (.int (hor fl k b.toNat fl.length)), some (.int (hor fl (k + 1) b.toNat fl.length)), some (.int by_), some (.ref D), none, none, none, none]), ?_, ?_⟩
        · walk_at "rd"
          refine iteD (fun c => ?_) (fun c => ?_)
          · refine ⟨_, ?_, fun _ _ h => h⟩
            walk_at "rd"
            rename_i p hp
            exact wall ⟨_, same_set (same_new sD hp) hD, upd_same, bads_app hB hp eD (bad_int ⟨by omega⟩ (fun h => by obtain ⟨h1, h2, h3, h4, h5, h6, h7⟩ := h; omega)), by rw [List.length_append]; exact Nat.add_le_add_right hL 1, rfl⟩
          · exact wall ⟨refs, sD, eD, hB, by omega, rfl⟩
        clear hB hL sD eD R' hlen
        rintro _ H' ⟨wq⟩
        obtain ⟨refs, sD, eD, hB, hL, rfl⟩ := wq trivial
        clear wq
        have R' := same_lst sD R0
        have hlen : refs.length < sizeLine := by rw [sizeLine_eq]; omega
        refine ⟨_, ?_, fun _ _ h => h⟩
        walk_at "rd"
        refine iteI (fun c => ?_) (fun c => ?_)
        · refine ⟨_, ?_, fun _ _ h => h⟩
          walk_at "rd"
          rename_i p hp
          exact wall ⟨_, same_set (same_new sD hp) hD, upd_same, bads_app hB hp eD (bad_int ⟨by omega⟩ (fun h => by obtain ⟨h1, h2, h3, h4, h5, h6, h7⟩ := h; omega)), by rw [List.length_append]; exact Nat.add_le_add_right hL 1, rfl⟩
        · exact wall ⟨refs, sD, eD, hB, by omega, rfl⟩
      · exact wall ⟨refs, sD, eD, hB, by omega, rfl⟩
    clear hB hL sD eD R' hlen
    rintro _ H' ⟨wq⟩
    obtain ⟨refs, sD, eD, hB, hL, rfl⟩ := wq trivial
    clear wq
    have R' := same_lst sD R0
    have hlen : refs.length < sizeLine := by rw [sizeLine_eq]; omega
    refine ⟨fun σ' H' => Wall (∃ (refs : List V), Same H0 H' ∧ H' D = some (.lst refs) ∧ (∀ v ∈ refs, BadP K fl H' v) ∧ refs.length ≤ 11 ∧ σ' = [some (.ref l), some (.ref r), some (.int b), some (.int k), some (.int (hor fl k b.toNat fl.length)), some (.int (hor fl (k + 1) b.toNat fl.length)), some (.int by_), some (.ref D), none, none, none, none]), ?_, ?_⟩
    · walk_at "rd"
      rename_i p hp
      exact wall ⟨_, same_set (same_new sD hp) hD, upd_same, bads_app hB hp eD (bad_int ⟨by omega⟩ (fun h => by obtain ⟨h1, h2, h3, h4, h5, h6, h7⟩ := h; rw [show (b + 1).toNat = b.toNat + 1 by omega] at h6 h7; exact hor_scale F k0 ⟨h6, h7⟩)), by rw [List.length_append]; exact Nat.add_le_add_right hL 1, rfl⟩
    clear hB hL sD eD R' hlen
    rintro _ H' ⟨wq⟩
    obtain ⟨refs, sD, eD, hB, hL, rfl⟩ := wq trivial
    clear wq
    have R' := same_lst sD R0
    have hlen : refs.length < sizeLine := by rw [sizeLine_eq]; omega
    refine ⟨fun σ' H' => Wall (∃ (refs : List V), Same H0 H' ∧ H' D = some (.lst refs) ∧ (∀ v ∈ refs, BadP K fl H' v) ∧ refs.length ≤ 12 ∧ σ' = [some (.ref l), some (.ref r), some (.int b), some (.int k), some (.int (hor fl k b.toNat fl.length)), some (.int (hor fl (k + 1) b.toNat fl.length)), some (.int by_), some (.ref D), none, none, none, none]), ?_, ?_⟩
    · walk_at "rd"
      refine iteD (fun c => ?_) (fun c => ?_)
      · refine ⟨_, ?_, fun _ _ h => h⟩
        walk_at "rd"
        rename_i p hp
        exact wall ⟨_, same_set (same_new sD hp) hD, upd_same, bads_app hB hp eD (bad_int ⟨by omega⟩ (fun h => by obtain ⟨h1, h2, h3, h4, h5, h6, h7⟩ := h; rw [show b.toNat = (b - 1).toNat + 1 by omega] at h6 h7; exact hor_scale F k0 ⟨h6.symm, h7.symm⟩)), by rw [List.length_append]; exact Nat.add_le_add_right hL 1, rfl⟩
      · exact wall ⟨refs, sD, eD, hB, by omega, rfl⟩
    clear hB hL sD eD R' hlen
    rintro _ H' ⟨wq⟩
    obtain ⟨refs, sD, eD, hB, hL, rfl⟩ := wq trivial
    clear wq
    have R' := same_lst sD R0
    have hlen : refs.length < sizeLine := by rw [sizeLine_eq]; omega
    refine ⟨fun σ' H' => Wall (∃ (refs : List V), Same H0 H' ∧ H' D = some (.lst refs) ∧ (∀ v ∈ refs, BadP K fl H' v) ∧ refs.length ≤ 13 ∧ σ' = [some (.ref l), some (.ref r), some (.int b), some (.int k), some (.int (hor fl k b.toNat fl.length)), some (.int (hor fl (k + 1) b.toNat fl.length)), some (.int by_), some (.ref D), none, none, none, none]), ?_, ?_⟩
    · walk_at "rd"
      rename_i p hp
      exact wall ⟨_, same_set (same_new sD hp) hD, upd_same, bads_app hB hp eD (bad_int ⟨by omega⟩ (fun h => by obtain ⟨h1, h2, h3, h4, h5, h6, h7⟩ := h; omega)), by rw [List.length_append]; exact Nat.add_le_add_right hL 1, rfl⟩
    clear hB hL sD eD R' hlen
    rintro _ H' ⟨wq⟩
    obtain ⟨refs, sD, eD, hB, hL, rfl⟩ := wq trivial
    clear wq
    have R' := same_lst sD R0
    have hlen : refs.length < sizeLine := by rw [sizeLine_eq]; omega
    refine ⟨fun σ' H' => Wall (∃ (refs : List V), Same H0 H' ∧ H' D = some (.lst refs) ∧ (∀ v ∈ refs, BadP K fl H' v) ∧ refs.length ≤ 14 ∧ σ' = [some (.ref l), some (.ref r), some (.int b), some (.int k), some (.int (hor fl k b.toNat fl.length)), some (.int (hor fl (k + 1) b.toNat fl.length)), some (.int by_), some (.ref D), none, none, none, none]), ?_, ?_⟩
    · walk_at "rd"
      rename_i p hp
      exact wall ⟨_, same_set (same_new sD hp) hD, upd_same, bads_app hB hp eD (⟨rfl, rfl, rfl, rfl, fun m e => (by cases e), rfl⟩), by rw [List.length_append]; exact Nat.add_le_add_right hL 1, rfl⟩
    clear hB hL sD eD R' hlen
    rintro _ H' ⟨wq⟩
    obtain ⟨refs, sD, eD, hB, hL, rfl⟩ := wq trivial
    clear wq
    have R' := same_lst sD R0
    have hlen : refs.length < sizeLine := by rw [sizeLine_eq]; omega
    refine ⟨fun σ' H' => Wall (∃ (refs : List V), Same H0 H' ∧ H' D = some (.lst refs) ∧ (∀ v ∈ refs, BadP K fl H' v) ∧ refs.length ≤ 15 ∧ σ' = [some (.ref l), some (.ref r), some (.int b), some (.int k), some (.int (hor fl k b.toNat fl.length)), some (.int (hor fl (k + 1) b.toNat fl.length)), some (.int by_), some (.ref D), none, none, none, none]), ?_, ?_⟩
    · walk_at "rd"
      rename_i p hp
      exact wall ⟨_, same_set (same_new sD hp) hD, upd_same, bads_app hB hp eD (⟨rfl, rfl, rfl, rfl, fun m e => (by cases e; exact ⟨by omega⟩), rfl⟩), by rw [List.length_append]; exact Nat.add_le_add_right hL 1, rfl⟩
    clear hB hL sD eD R' hlen
    rintro _ H' ⟨wq⟩
    obtain ⟨refs, sD, eD, hB, hL, rfl⟩ := wq trivial
    clear wq
    have R' := same_lst sD R0
    have hlen : refs.length < sizeLine := by rw [sizeLine_eq]; omega
    refine ⟨fun σ' H' => Wall (∃ (refs : List V), Same H0 H' ∧ H' D = some (.lst refs) ∧ (∀ v ∈ refs, BadP K fl H' v) ∧ refs.length ≤ 16 ∧ σ' = [some (.ref l), some (.ref r), some (.int b), some (.int k), some (.int (hor fl k b.toNat fl.length)), some (.int (hor fl (k + 1) b.toNat fl.length)), some (.int by_), some (.ref D), none, none, none, none]), ?_, ?_⟩
    · walk_at "rd"
      rename_i p hp
      exact wall ⟨_, same_set (same_new sD hp) hD, upd_same, bads_app hB hp eD (⟨rfl, rfl, rfl, rfl, fun m e => (by cases e; exact ⟨by omega⟩), rfl⟩), by rw [List.length_append]; exact Nat.add_le_add_right hL 1, rfl⟩
    clear hB hL sD eD R' hlen
    rintro _ H' ⟨wq⟩
    obtain ⟨refs, sD, eD, hB, hL, rfl⟩ := wq trivial
    clear wq
    have R' := same_lst sD R0
    have hlen : refs.length < sizeLine := by rw [sizeLine_eq]; omega
    refine ⟨fun σ' H' => Wall (∃ (refs : List V), Same H0 H' ∧ H' D = some (.lst refs) ∧ (∀ v ∈ refs, BadP K fl H' v) ∧ refs.length ≤ 17 ∧ σ' = [some (.ref l), some (.ref r), some (.int b), some (.int k), some (.int (hor fl k b.toNat fl.length)), some (.int (hor fl (k + 1) b.toNat fl.length)), some (.int by_), some (.ref D), none, none, none, none]), ?_, ?_⟩
    · walk_at "rd"
      rename_i p hp
      exact wall ⟨_, same_set (same_new sD hp) hD, upd_same, bads_app hB hp eD (⟨rfl, rfl, rfl, rfl, fun m e => (by cases e; exact ⟨by omega⟩), rfl⟩), by rw [List.length_append]; exact Nat.add_le_add_right hL 1, rfl⟩
    clear hB hL sD eD R' hlen
    rintro _ H' ⟨wq⟩
    obtain ⟨refs, sD, eD, hB, hL, rfl⟩ := wq trivial
    clear wq
    have R' := same_lst sD R0
    have hlen : refs.length < sizeLine := by rw [sizeLine_eq]; omega
    refine ⟨fun σ' H' => Wall (∃ (refs : List V), Same H0 H' ∧ H' D = some (.lst refs) ∧ (∀ v ∈ refs, BadP K fl H' v) ∧ refs.length ≤ 18 ∧ σ' = [some (.ref l), some (.ref r), some (.int b), some (.int k), some (.int (hor fl k b.toNat fl.length)), some (.int (hor fl (k + 1) b.toNat fl.length)), some (.int by_), some (.ref D), none, none, none, none]), ?_, ?_⟩
    · walk_at "rd"
      rename_i p hp
      exact wall ⟨_, same_set (same_new sD hp) hD, upd_same, bads_app hB hp eD (bad_int ⟨by omega⟩ (fun h => by obtain ⟨h1, h2, h3, h4, h5, h6, h7⟩ := h; omega)), by rw [List.length_append]; exact Nat.add_le_add_right hL 1, rfl⟩
    clear hB hL sD eD R' hlen
    rintro _ H' ⟨wq⟩
    obtain ⟨refs, sD, eD, hB, hL, rfl⟩ := wq trivial
    clear wq
    have R' := same_lst sD R0
    have hlen : refs.length < sizeLine := by rw [sizeLine_eq]; omega
    refine ⟨fun σ' H' => Wall (∃ (refs : List V), Same H0 H' ∧ H' D = some (.lst refs) ∧ (∀ v ∈ refs, BadP K fl H' v) ∧ refs.length ≤ 19 ∧ σ' = [some (.ref l), some (.ref r), some (.int b), some (.int k), some (.int (hor fl k b.toNat fl.length)), some (.int (hor fl (k + 1) b.toNat fl.length)), some (.int by_), some (.ref D), none, none, none, none]), ?_, ?_⟩
    · walk_at "rd"
      rename_i p hp
      exact wall ⟨_, same_set (same_new sD hp) hD, upd_same, bads_app hB hp eD (bad_int ⟨by omega⟩ (fun h => by obtain ⟨h1, h2, h3, h4, h5, h6, h7⟩ := h; omega)), by rw [List.length_append]; exact Nat.add_le_add_right hL 1, rfl⟩
    clear hB hL sD eD R' hlen
    rintro _ H' ⟨wq⟩
    obtain ⟨refs, sD, eD, hB, hL, rfl⟩ := wq trivial
    clear wq
    have R' := same_lst sD R0
    have hlen : refs.length < sizeLine := by rw [sizeLine_eq]; omega
    refine ⟨fun σ' H' => Wall (∃ (refs : List V), Same H0 H' ∧ H' D = some (.lst refs) ∧ (∀ v ∈ refs, BadP K fl H' v) ∧ refs.length ≤ 20 ∧ σ' = [some (.ref l), some (.ref r), some (.int b), some (.int k), some (.int (hor fl k b.toNat fl.length)), some (.int (hor fl (k + 1) b.toNat fl.length)), some (.int by_), some (.ref D), none, none, none, none]), ?_, ?_⟩
    · walk_at "rd"
      rename_i p hp
      exact wall ⟨_, same_set (same_new sD hp) hD, upd_same, bads_app hB hp eD (bad_int ⟨by omega⟩ (fun h => by obtain ⟨h1, h2, h3, h4, h5, h6, h7⟩ := h; omega)), by rw [List.length_append]; exact Nat.add_le_add_right hL 1, rfl⟩
    clear hB hL sD eD R' hlen
    rintro _ H' ⟨wq⟩
    obtain ⟨refs, sD, eD, hB, hL, rfl⟩ := wq trivial
    clear wq
    have R' := same_lst sD R0
    have hlen : refs.length < sizeLine := by rw [sizeLine_eq]; omega
    walk_at "rd"
    have LD := l_of (K := K) eD
    refine ⟨⟨_, LD⟩, for_list (xs := refs) (fun i σ H2 => Wall (∃ u, Same H' H2 ∧ σ = [some (.ref l), some (.ref r), some (.int b), some (.int k), some (.int (hor fl k b.toNat fl.length)), some (.int (hor fl (k + 1) b.toNat fl.length)), some (.int by_), some (.ref D), u, none, none, none])) (wall ⟨_, Same.refl _, rfl⟩) (fun i σ H2 _ h => by obtain ⟨u, s, _⟩ := h.get trivial; exact same_lst s LD) ?_ ?_⟩
    · rintro i x σ H5 hx ⟨w5⟩
      obtain ⟨u, s5, rfl⟩ := w5 trivial
      obtain ⟨t, v0, v1, v2, v3, rfl, tT, bI⟩ := hB x (List.mem_of_getElem? hx)
      have T5 := same_tup s5 tT
      have R5 := same_lst s5 R'
      walk_at "rd"
      rename_i c2 hc2
      refine check_factor_go (l_of upd_same) F (tup_upd hc2 T5) bI.k0 bI.k1 bI.k2 bI.k3 bI.sz fun H6 s6 => ?_
      rw [bI.no]
      walk_at "rd"
      exact wall ⟨_, s5.trans ((same_new (Same.refl _) hc2).trans s6), rfl⟩
    · rintro σ H5 ⟨w5⟩
      obtain ⟨u, s5, rfl⟩ := w5 trivial
      have R5 := same_lst s5 R'
      walk_at "rd"
      refine ⟨fun σ' H6 => Wall (H6 = H5 ∧ ∃ m : Int, 1 ≤ m ∧ m ≤ 40 ∧ σ' = [some (.ref l), some (.ref r), some (.int b), some (.int k), some (.int (hor fl k b.toNat fl.length)), some (.int (hor fl (k + 1) b.toNat fl.length)), some (.int by_), some (.ref D), u, some (.int m), none, none]), ?_, ?_⟩
      · walk_at "rd"
        refine iteD (fun c => ?_) (fun c => ?_)
        · walk_at "rd"
          exact wall ⟨rfl, _, by omega, by omega, rfl⟩
        · exact wall ⟨rfl, _, by omega, by omega, rfl⟩
      rintro _ H6 ⟨w6⟩
      obtain ⟨rfl, m, m0, m1, rfl⟩ := w6 trivial
      have m2 : m ≤ 41 := by omega
      have m3 : m ≤ 100 := by omega
      have m4 : 0 ≤ m := by omega
      walk_at "rd"
      intro j hJ hj
      have j0 := hJ.1
      have sj : Sz 200 j := ⟨by omega⟩
      have sj1 : Sz 200 (j + 1) := ⟨by omega⟩
      walk_at "rd"
      rename_i o1 ho1 c3 hc3
      refine check_factor_go (by walk_at "sq") F (by walk_at "sq") rfl rfl rfl rfl (fun n e => by cases e; exact ⟨by omega⟩) fun H7 s7 => ?_
      rw [chk_ok hJ m0 m1]
      walk_at "rd"
      exact q _

end
theorem all_mk {w : World} {K : PySem.W.Frag} {h : Heap} {mg : Str → Option Value} {fa : Addr} (X : K.In h) (G : h.Ns mainGlobals mg) (hfa : mg "law" = some (.ref fa))
    {f_check_flows : Addr} {oc_check_flows kV_check_flows dc_check_flows pm_check_flows cd_check_flows ct_check_flows : Value} {od_check_flows an_check_flows : Option Addr} {sl_check_flows : Array (Option Value)}
    {f_scaled_sum : Addr} {oc_scaled_sum kV_scaled_sum dc_scaled_sum pm_scaled_sum cd_scaled_sum ct_scaled_sum : Value} {od_scaled_sum an_scaled_sum : Option Addr} {sl_scaled_sum : Array (Option Value)}
    {f_check_factor : Addr} {oc_check_factor kV_check_factor dc_check_factor pm_check_factor cd_check_factor ct_check_factor : Value} {od_check_factor an_check_factor : Option Addr} {sl_check_factor : Array (Option Value)}
    {f__law_cell : Addr} {oc__law_cell kV__law_cell dc__law_cell pm__law_cell cd__law_cell ct__law_cell : Value} {od__law_cell an__law_cell : Option Addr} {sl__law_cell : Array (Option Value)}
    {f__law_draw : Addr} {oc__law_draw kV__law_draw dc__law_draw pm__law_draw cd__law_draw ct__law_draw : Value} {od__law_draw an__law_draw : Option Addr} {sl__law_draw : Array (Option Value)}
    {f__law_two_to : Addr} {oc__law_two_to kV__law_two_to dc__law_two_to pm__law_two_to cd__law_two_to ct__law_two_to : Value} {od__law_two_to an__law_two_to : Option Addr} {sl__law_two_to : Array (Option Value)}
    {f__law_sum_at : Addr} {oc__law_sum_at kV__law_sum_at dc__law_sum_at pm__law_sum_at cd__law_sum_at ct__law_sum_at : Value} {od__law_sum_at an__law_sum_at : Option Addr} {sl__law_sum_at : Array (Option Value)}
    {f__law_flows : Addr} {oc__law_flows kV__law_flows dc__law_flows pm__law_flows cd__law_flows ct__law_flows : Value} {od__law_flows an__law_flows : Option Addr} {sl__law_flows : Array (Option Value)}
    {f__law_place : Addr} {oc__law_place kV__law_place dc__law_place pm__law_place cd__law_place ct__law_place : Value} {od__law_place an__law_place : Option Addr} {sl__law_place : Array (Option Value)}
    {f_law : Addr} {oc_law kV_law dc_law pm_law cd_law ct_law : Value} {od_law an_law : Option Addr} {sl_law : Array (Option Value)}
    {c_BookError : Addr}
    {c_OutOfRange : Addr}
    {fI_OutOfRange cc_OutOfRange cda_OutOfRange N_OutOfRange : Addr} {oc_OutOfRange doc_OutOfRange pm_OutOfRange ct_OutOfRange cl_OutOfRange ccl_OutOfRange : Value} {od_OutOfRange dd_OutOfRange cld_OutOfRange cdd_OutOfRange : Option Addr} {osl_OutOfRange csl_OutOfRange ccs_OutOfRange : Array (Option Value)} {nm_OutOfRange q_OutOfRange file_OutOfRange : Str} {bs_OutOfRange sub_OutOfRange : List Value} {sn_OutOfRange : List Str} {ab_OutOfRange : Bool} {col_OutOfRange : Option Bool} {m0_OutOfRange m1_OutOfRange m2_OutOfRange m3_OutOfRange m5_OutOfRange : Option Value} {vs_OutOfRange : Array Value} {tf_OutOfRange : Tok}
    {tk_MOST_FLOWS : Tok}
    {tk_MOST_BITS : Tok}
    (a_check_flows : PySem.W.nsIn K mainGlobals "check_flows" = some (some (.ref f_check_flows)))
    (l_check_flows : K.lookup f_check_flows = some ⟨oc_check_flows, od_check_flows, .func (PySem.W.fnOf "check_flows" "check_flows" (defArgs s_check_flows) (defBody s_check_flows) (defScope s_check_flows) .none kV_check_flows dc_check_flows pm_check_flows an_check_flows cd_check_flows ct_check_flows), sl_check_flows⟩)
    (c_check_flows : PySem.W.codeIn K cd_check_flows "check_flows" = true)
    (k_check_flows : PySem.W.keepIn K (.ref f_check_flows) = true)
    (a_scaled_sum : PySem.W.nsIn K mainGlobals "scaled_sum" = some (some (.ref f_scaled_sum)))
    (l_scaled_sum : K.lookup f_scaled_sum = some ⟨oc_scaled_sum, od_scaled_sum, .func (PySem.W.fnOf "scaled_sum" "scaled_sum" (defArgs s_scaled_sum) (defBody s_scaled_sum) (defScope s_scaled_sum) .none kV_scaled_sum dc_scaled_sum pm_scaled_sum an_scaled_sum cd_scaled_sum ct_scaled_sum), sl_scaled_sum⟩)
    (c_scaled_sum : PySem.W.codeIn K cd_scaled_sum "scaled_sum" = true)
    (k_scaled_sum : PySem.W.keepIn K (.ref f_scaled_sum) = true)
    (a_check_factor : PySem.W.nsIn K mainGlobals "check_factor" = some (some (.ref f_check_factor)))
    (l_check_factor : K.lookup f_check_factor = some ⟨oc_check_factor, od_check_factor, .func (PySem.W.fnOf "check_factor" "check_factor" (defArgs s_check_factor) (defBody s_check_factor) (defScope s_check_factor) .none kV_check_factor dc_check_factor pm_check_factor an_check_factor cd_check_factor ct_check_factor), sl_check_factor⟩)
    (c_check_factor : PySem.W.codeIn K cd_check_factor "check_factor" = true)
    (k_check_factor : PySem.W.keepIn K (.ref f_check_factor) = true)
    (a__law_cell : PySem.W.nsIn K mainGlobals "_law_cell" = some (some (.ref f__law_cell)))
    (l__law_cell : K.lookup f__law_cell = some ⟨oc__law_cell, od__law_cell, .func (PySem.W.fnOf "_law_cell" "_law_cell" (defArgs s__law_cell) (defBody s__law_cell) (defScope s__law_cell) .none kV__law_cell dc__law_cell pm__law_cell an__law_cell cd__law_cell ct__law_cell), sl__law_cell⟩)
    (c__law_cell : PySem.W.codeIn K cd__law_cell "_law_cell" = true)
    (k__law_cell : PySem.W.keepIn K (.ref f__law_cell) = true)
    (a__law_draw : PySem.W.nsIn K mainGlobals "_law_draw" = some (some (.ref f__law_draw)))
    (l__law_draw : K.lookup f__law_draw = some ⟨oc__law_draw, od__law_draw, .func (PySem.W.fnOf "_law_draw" "_law_draw" (defArgs s__law_draw) (defBody s__law_draw) (defScope s__law_draw) .none kV__law_draw dc__law_draw pm__law_draw an__law_draw cd__law_draw ct__law_draw), sl__law_draw⟩)
    (c__law_draw : PySem.W.codeIn K cd__law_draw "_law_draw" = true)
    (k__law_draw : PySem.W.keepIn K (.ref f__law_draw) = true)
    (a__law_two_to : PySem.W.nsIn K mainGlobals "_law_two_to" = some (some (.ref f__law_two_to)))
    (l__law_two_to : K.lookup f__law_two_to = some ⟨oc__law_two_to, od__law_two_to, .func (PySem.W.fnOf "_law_two_to" "_law_two_to" (defArgs s__law_two_to) (defBody s__law_two_to) (defScope s__law_two_to) .none kV__law_two_to dc__law_two_to pm__law_two_to an__law_two_to cd__law_two_to ct__law_two_to), sl__law_two_to⟩)
    (c__law_two_to : PySem.W.codeIn K cd__law_two_to "_law_two_to" = true)
    (k__law_two_to : PySem.W.keepIn K (.ref f__law_two_to) = true)
    (a__law_sum_at : PySem.W.nsIn K mainGlobals "_law_sum_at" = some (some (.ref f__law_sum_at)))
    (l__law_sum_at : K.lookup f__law_sum_at = some ⟨oc__law_sum_at, od__law_sum_at, .func (PySem.W.fnOf "_law_sum_at" "_law_sum_at" (defArgs s__law_sum_at) (defBody s__law_sum_at) (defScope s__law_sum_at) .none kV__law_sum_at dc__law_sum_at pm__law_sum_at an__law_sum_at cd__law_sum_at ct__law_sum_at), sl__law_sum_at⟩)
    (c__law_sum_at : PySem.W.codeIn K cd__law_sum_at "_law_sum_at" = true)
    (k__law_sum_at : PySem.W.keepIn K (.ref f__law_sum_at) = true)
    (a__law_flows : PySem.W.nsIn K mainGlobals "_law_flows" = some (some (.ref f__law_flows)))
    (l__law_flows : K.lookup f__law_flows = some ⟨oc__law_flows, od__law_flows, .func (PySem.W.fnOf "_law_flows" "_law_flows" (defArgs s__law_flows) (defBody s__law_flows) (defScope s__law_flows) .none kV__law_flows dc__law_flows pm__law_flows an__law_flows cd__law_flows ct__law_flows), sl__law_flows⟩)
    (c__law_flows : PySem.W.codeIn K cd__law_flows "_law_flows" = true)
    (k__law_flows : PySem.W.keepIn K (.ref f__law_flows) = true)
    (a__law_place : PySem.W.nsIn K mainGlobals "_law_place" = some (some (.ref f__law_place)))
    (l__law_place : K.lookup f__law_place = some ⟨oc__law_place, od__law_place, .func (PySem.W.fnOf "_law_place" "_law_place" (defArgs s__law_place) (defBody s__law_place) (defScope s__law_place) .none kV__law_place dc__law_place pm__law_place an__law_place cd__law_place ct__law_place), sl__law_place⟩)
    (c__law_place : PySem.W.codeIn K cd__law_place "_law_place" = true)
    (k__law_place : PySem.W.keepIn K (.ref f__law_place) = true)
    (a_law : PySem.W.nsIn K mainGlobals "law" = some (some (.ref f_law)))
    (l_law : K.lookup f_law = some ⟨oc_law, od_law, .func (PySem.W.fnOf "law" "law" (defArgs s_law) (defBody s_law) (defScope s_law) .none kV_law dc_law pm_law an_law cd_law ct_law), sl_law⟩)
    (c_law : PySem.W.codeIn K cd_law "law" = true)
    (k_law : PySem.W.keepIn K (.ref f_law) = true)
    (third : PySem.W.nsIn K cStatics "thirdparty.any" = some none)
    (zsuper : PySem.W.nsIn K mainGlobals "super" = some none)
    (spc : PySem.W.specialIn K (.builtin "object.__class__") "__get__" = some (some (.builtin "getset_descriptor.__get__")))
    (tkc : PySem.W.takesIn K (.builtin "object.__class__") = some true)
    (a_BookError : PySem.W.nsIn K mainGlobals "BookError" = some (some (.ref c_BookError)))
    (ga_BookError : PySem.W.findIn K (.ref c_BookError) "__getattribute__" = some (some (.builtin "BaseException.__getattribute__")))
    (gg_BookError : PySem.W.findIn K (.ref c_BookError) "__getattr__" = some none)
    (sb_BookError : PySem.W.subIn K (.ref c_BookError) (.type "BaseException") = some true)
    (hd_BookError : PySem.W.hasDictIn K c_BookError = true)
    (ha_BookError : PySem.W.findIn K (.ref c_BookError) "__class__" = some (some (.builtin "object.__class__")))
    (hm_BookError : PySem.W.mroIn K c_BookError (.type "object") = some true)
    (ty_BookError : PySem.W.typeIn K (.ref c_BookError) = some (.type "type"))
    (se_BookError : PySem.W.mroIn K c_BookError (.ref c_BookError) = some true)
    (a_OutOfRange : PySem.W.nsIn K mainGlobals "OutOfRange" = some (some (.ref c_OutOfRange)))
    (ga_OutOfRange : PySem.W.findIn K (.ref c_OutOfRange) "__getattribute__" = some (some (.builtin "BaseException.__getattribute__")))
    (gg_OutOfRange : PySem.W.findIn K (.ref c_OutOfRange) "__getattr__" = some none)
    (sb_OutOfRange : PySem.W.subIn K (.ref c_OutOfRange) (.type "BaseException") = some true)
    (hd_OutOfRange : PySem.W.hasDictIn K c_OutOfRange = true)
    (ha_OutOfRange : PySem.W.findIn K (.ref c_OutOfRange) "__class__" = some (some (.builtin "object.__class__")))
    (hm_OutOfRange : PySem.W.mroIn K c_OutOfRange (.type "object") = some true)
    (ty_OutOfRange : PySem.W.typeIn K (.ref c_OutOfRange) = some (.type "type"))
    (se_OutOfRange : PySem.W.mroIn K c_OutOfRange (.ref c_OutOfRange) = some true)
    (xL_OutOfRange : K.lookup c_OutOfRange = some (excClassObj nm_OutOfRange q_OutOfRange c_OutOfRange N_OutOfRange bs_OutOfRange [.ref c_BookError, .type "ValueError", .type "Exception", .type "BaseException", .type "object"] true sn_OutOfRange sub_OutOfRange ab_OutOfRange col_OutOfRange dd_OutOfRange m0_OutOfRange m1_OutOfRange m2_OutOfRange m3_OutOfRange m5_OutOfRange "ValueError.__new__"))
    (sa_OutOfRange : PySem.W.findIn K (.ref c_OutOfRange) "__setattr__" = some (some (.builtin "object.__setattr__")))
    (kp_OutOfRange : PySem.W.keepIn K (.ref c_OutOfRange) = true)
    (i_OutOfRange : PySem.W.findIn K (.ref c_OutOfRange) "__init__" = some (some (.ref fI_OutOfRange)))
    (ti_OutOfRange : PySem.W.typeIn K (.ref fI_OutOfRange) = some (.type "function"))
    (li_OutOfRange : K.lookup fI_OutOfRange = some ⟨oc_OutOfRange, od_OutOfRange, .func ((⟨"__init__", "OutOfRange.__init__", defArgs s_OutOfRange, defBody s_OutOfRange, defScope s_OutOfRange, [(("__class__" : Str), cc_OutOfRange)], cda_OutOfRange⟩ : NdefX.NF).fd doc_OutOfRange pm_OutOfRange ct_OutOfRange), osl_OutOfRange⟩)
    (ci_OutOfRange : PySem.W.codeIn K (.ref cda_OutOfRange) "OutOfRange.__init__" = true)
    (ce_OutOfRange : K.lookup cc_OutOfRange = some ⟨cl_OutOfRange, cld_OutOfRange, .cell (some (.ref c_OutOfRange)), csl_OutOfRange⟩)
    (co_OutOfRange : K.lookup cda_OutOfRange = some ⟨ccl_OutOfRange, cdd_OutOfRange, .fields vs_OutOfRange, ccs_OutOfRange⟩)
    (vs_OutOfRange : vs_OutOfRange[2]? = some (.str file_OutOfRange tf_OutOfRange))
    (fi_OutOfRange : ((P.main.file : Str) == file_OutOfRange) = true)
    (su_OutOfRange : PySem.W.ks_superIn K c_OutOfRange c_OutOfRange "__init__" = some (some (.builtin "ValueError.__init__")))
    (ve_OutOfRange : PySem.W.subIn K (.ref c_OutOfRange) (.type "ValueError") = some true)
    (n_OutOfRange_label : PySem.W.findIn K (.ref c_OutOfRange) "label" = some none)
    (n_OutOfRange_value : PySem.W.findIn K (.ref c_OutOfRange) "value" = some none)
    (y_BookError_BookError : PySem.W.subIn K (.ref c_BookError) (.ref c_BookError) = some true)
    (y_BookError_OutOfRange : PySem.W.subIn K (.ref c_BookError) (.ref c_OutOfRange) = some false)
    (yv_BookError : PySem.W.subIn K (.ref c_BookError) (.type "ValueError") = some true)
    (y_OutOfRange_BookError : PySem.W.subIn K (.ref c_OutOfRange) (.ref c_BookError) = some true)
    (y_OutOfRange_OutOfRange : PySem.W.subIn K (.ref c_OutOfRange) (.ref c_OutOfRange) = some true)
    (yv_OutOfRange : PySem.W.subIn K (.ref c_OutOfRange) (.type "ValueError") = some true)
    (a_MOST_FLOWS : PySem.W.nsIn K mainGlobals "MOST_FLOWS" = some (some (.int 481 tk_MOST_FLOWS)))
    (a_MOST_BITS : PySem.W.nsIn K mainGlobals "MOST_BITS" = some (some (.int 40 tk_MOST_BITS)))
    (z_max : PySem.W.nsIn K mainGlobals "max" = some none)
    (z_len : PySem.W.nsIn K mainGlobals "len" = some none)
    (z_range : PySem.W.nsIn K mainGlobals "range" = some none)
    (z_isinstance : PySem.W.nsIn K mainGlobals "isinstance" = some none)
    (z_bool : PySem.W.nsIn K mainGlobals "bool" = some none)
    (z_int : PySem.W.nsIn K mainGlobals "int" = some none)
    (z_abs : PySem.W.nsIn K mainGlobals "abs" = some none)
    (z_min : PySem.W.nsIn K mainGlobals "min" = some none)
    (z_list : PySem.W.nsIn K mainGlobals "list" = some none)
    (z_str : PySem.W.nsIn K mainGlobals "str" = some none)
    : ∃ fd : FuncData, (∀ (s : Shared) (u : Value), BindsTo s fd ⟨[u], []⟩ [("script", u)]) ∧ ∀ base : Heap, K.In base → base.Ns mainGlobals mg → FnOk P w K mg base (L2.CX P w) 6 fa fd ["script"] (sp_law K) := by
  let T : Txt K mg := {
    a_check_flows := f_check_flows, fd_check_flows := _, F_check_flows := fun_of l_check_flows c_check_flows k_check_flows, m_check_flows := PySem.W.mg_of X G a_check_flows, b_check_flows := (fun_of l_check_flows c_check_flows k_check_flows).bindsN fun _ _ _ _ _ _ us hl => match us, hl with | [_], _ => rfl,
    a_scaled_sum := f_scaled_sum, fd_scaled_sum := _, F_scaled_sum := fun_of l_scaled_sum c_scaled_sum k_scaled_sum, m_scaled_sum := PySem.W.mg_of X G a_scaled_sum, b_scaled_sum := (fun_of l_scaled_sum c_scaled_sum k_scaled_sum).bindsN fun _ _ _ _ _ _ us hl => match us, hl with | [_, _, _], _ => rfl,
    a_check_factor := f_check_factor, fd_check_factor := _, F_check_factor := fun_of l_check_factor c_check_factor k_check_factor, m_check_factor := PySem.W.mg_of X G a_check_factor, b_check_factor := (fun_of l_check_factor c_check_factor k_check_factor).bindsN fun _ _ _ _ _ _ us hl => match us, hl with | [_, _], _ => rfl,
    a__law_cell := f__law_cell, fd__law_cell := _, F__law_cell := fun_of l__law_cell c__law_cell k__law_cell, m__law_cell := PySem.W.mg_of X G a__law_cell, b__law_cell := (fun_of l__law_cell c__law_cell k__law_cell).bindsN fun _ _ _ _ _ _ us hl => match us, hl with | [_, _], _ => rfl,
    a__law_draw := f__law_draw, fd__law_draw := _, F__law_draw := fun_of l__law_draw c__law_draw k__law_draw, m__law_draw := PySem.W.mg_of X G a__law_draw, b__law_draw := (fun_of l__law_draw c__law_draw k__law_draw).bindsN fun _ _ _ _ _ _ us hl => match us, hl with | [_, _], _ => rfl,
    a__law_two_to := f__law_two_to, fd__law_two_to := _, F__law_two_to := fun_of l__law_two_to c__law_two_to k__law_two_to, m__law_two_to := PySem.W.mg_of X G a__law_two_to, b__law_two_to := (fun_of l__law_two_to c__law_two_to k__law_two_to).bindsN fun _ _ _ _ _ _ us hl => match us, hl with | [_], _ => rfl,
    a__law_sum_at := f__law_sum_at, fd__law_sum_at := _, F__law_sum_at := fun_of l__law_sum_at c__law_sum_at k__law_sum_at, m__law_sum_at := PySem.W.mg_of X G a__law_sum_at, b__law_sum_at := (fun_of l__law_sum_at c__law_sum_at k__law_sum_at).bindsN fun _ _ _ _ _ _ us hl => match us, hl with | [_, _, _], _ => rfl,
    a__law_flows := f__law_flows, fd__law_flows := _, F__law_flows := fun_of l__law_flows c__law_flows k__law_flows, m__law_flows := PySem.W.mg_of X G a__law_flows, b__law_flows := (fun_of l__law_flows c__law_flows k__law_flows).bindsN fun _ _ _ _ _ _ us hl => match us, hl with | [_], _ => rfl,
    a__law_place := f__law_place, fd__law_place := _, F__law_place := fun_of l__law_place c__law_place k__law_place, m__law_place := PySem.W.mg_of X G a__law_place, b__law_place := (fun_of l__law_place c__law_place k__law_place).bindsN fun _ _ _ _ _ _ us hl => match us, hl with | [_, _], _ => rfl,
    a_law := f_law, fd_law := _, F_law := fun_of l_law c_law k_law, m_law := PySem.W.mg_of X G a_law, b_law := (fun_of l_law c_law k_law).bindsN fun _ _ _ _ _ _ us hl => match us, hl with | [_], _ => rfl,
    c_BookError := c_BookError, m_BookError := PySem.W.mg_of X G a_BookError, e_BookError := ⟨⟨ga_BookError, gg_BookError, sb_BookError, hd_BookError, ha_BookError, spc, tkc, hm_BookError⟩, ty_BookError, se_BookError⟩,
    c_OutOfRange := c_OutOfRange, m_OutOfRange := PySem.W.mg_of X G a_OutOfRange, e_OutOfRange := ⟨⟨ga_OutOfRange, gg_OutOfRange, sb_OutOfRange, hd_OutOfRange, ha_OutOfRange, spc, tkc, hm_OutOfRange⟩, ty_OutOfRange, se_OutOfRange⟩,
    x_OutOfRange := ⟨fI_OutOfRange, cc_OutOfRange, cda_OutOfRange, _, _, _, _, _, _, ⟨⟨⟨nm_OutOfRange, q_OutOfRange, N_OutOfRange, bs_OutOfRange, _, sn_OutOfRange, sub_OutOfRange, ab_OutOfRange, col_OutOfRange, dd_OutOfRange, m0_OutOfRange, m1_OutOfRange, m2_OutOfRange, m3_OutOfRange, m5_OutOfRange, xL_OutOfRange, rfl⟩, sa_OutOfRange, sb_OutOfRange, ty_OutOfRange, kp_OutOfRange⟩, i_OutOfRange, ti_OutOfRange, ⟨_, _, _, ce_OutOfRange⟩, ⟨_, _, _, _, _, _, co_OutOfRange, vs_OutOfRange, fi_OutOfRange⟩, by decide +kernel, PySem.W.mg_none_of X G zsuper, se_OutOfRange, third, su_OutOfRange, ve_OutOfRange⟩, li_OutOfRange, ci_OutOfRange⟩,
    n_OutOfRange_label := n_OutOfRange_label,
    n_OutOfRange_value := n_OutOfRange_value,
    y_BookError_BookError := y_BookError_BookError,
    y_BookError_OutOfRange := y_BookError_OutOfRange,
    yv_BookError := yv_BookError,
    y_OutOfRange_BookError := y_OutOfRange_BookError,
    y_OutOfRange_OutOfRange := y_OutOfRange_OutOfRange,
    yv_OutOfRange := yv_OutOfRange,
    m_MOST_FLOWS := ⟨_, PySem.W.mg_of X G a_MOST_FLOWS⟩,
    m_MOST_BITS := ⟨_, PySem.W.mg_of X G a_MOST_BITS⟩,
    z_max := PySem.W.mg_none_of X G z_max,
    z_len := PySem.W.mg_none_of X G z_len,
    z_range := PySem.W.mg_none_of X G z_range,
    z_isinstance := PySem.W.mg_none_of X G z_isinstance,
    z_bool := PySem.W.mg_none_of X G z_bool,
    z_int := PySem.W.mg_none_of X G z_int,
    z_abs := PySem.W.mg_none_of X G z_abs,
    z_min := PySem.W.mg_none_of X G z_min,
    z_list := PySem.W.mg_none_of X G z_list,
    z_str := PySem.W.mg_none_of X G z_str }
  have e := hfa.symm.trans T.m_law
  cases e
  exact ⟨_, fun s u => T.F_law.bindsA (ps := ["script"]) (fun _ _ _ _ _ _ us hl => match us, hl with | [_], _ => rfl) s [u] rfl, fun base _ _ => (ok_law T).mono (by decide)⟩
end My
open PySem PySem.W PyProof.Rows
set_option maxRecDepth 100000 in
set_option maxHeartbeats 0 in
theorem PySem.Challenge.cw_lendbook_k67_factor_proofs_are_judged_holds : PySem.Challenge.rw_lendbook_k67_factor_proofs_are_judged.Holds := by
  w_on; o_law; k_head; (case hw => w_witness2)
  k_fill
  refine LB.walk (l := PySem.Challenge.rw_lendbook_k67_factor_proofs_are_judged) (k := 6) rfl rfl ⟨rfl, by decide, by decide⟩ (fun w h Y => PySem.W.kIn_of Y) ?F
  case F =>
    intro w mg fa h KX G hmg
    refine' My.all_mk KX G hmg ?a_check_flows ?l_check_flows ?c_check_flows ?k_check_flows ?a_scaled_sum ?l_scaled_sum ?c_scaled_sum ?k_scaled_sum ?a_check_factor ?l_check_factor ?c_check_factor ?k_check_factor ?a__law_cell ?l__law_cell ?c__law_cell ?k__law_cell ?a__law_draw ?l__law_draw ?c__law_draw ?k__law_draw ?a__law_two_to ?l__law_two_to ?c__law_two_to ?k__law_two_to ?a__law_sum_at ?l__law_sum_at ?c__law_sum_at ?k__law_sum_at ?a__law_flows ?l__law_flows ?c__law_flows ?k__law_flows ?a__law_place ?l__law_place ?c__law_place ?k__law_place ?a_law ?l_law ?c_law ?k_law ?third ?zsuper ?spc ?tkc ?a_BookError ?ga_BookError ?gg_BookError ?sb_BookError ?hd_BookError ?ha_BookError ?hm_BookError ?ty_BookError ?se_BookError ?a_OutOfRange ?ga_OutOfRange ?gg_OutOfRange ?sb_OutOfRange ?hd_OutOfRange ?ha_OutOfRange ?hm_OutOfRange ?ty_OutOfRange ?se_OutOfRange ?xL_OutOfRange ?sa_OutOfRange ?kp_OutOfRange ?i_OutOfRange ?ti_OutOfRange ?li_OutOfRange ?ci_OutOfRange ?ce_OutOfRange ?co_OutOfRange ?vs_OutOfRange ?fi_OutOfRange ?su_OutOfRange ?ve_OutOfRange ?n_OutOfRange_label ?n_OutOfRange_value ?y_BookError_BookError ?y_BookError_OutOfRange ?yv_BookError ?y_OutOfRange_BookError ?y_OutOfRange_OutOfRange ?yv_OutOfRange ?a_MOST_FLOWS ?a_MOST_BITS ?z_max ?z_len ?z_range ?z_isinstance ?z_bool ?z_int ?z_abs ?z_min ?z_list ?z_str
    (case a_check_flows => k_is)
    (case l_check_flows => k_is)
    (case c_check_flows => k_is)
    (case k_check_flows => k_is)
    (case a_scaled_sum => k_is)
    (case l_scaled_sum => k_is)
    (case c_scaled_sum => k_is)
    (case k_scaled_sum => k_is)
    (case a_check_factor => k_is)
    (case l_check_factor => k_is)
    (case c_check_factor => k_is)
    (case k_check_factor => k_is)
    (case a__law_cell => k_is)
    (case l__law_cell => k_is)
    (case c__law_cell => k_is)
    (case k__law_cell => k_is)
    (case a__law_draw => k_is)
    (case l__law_draw => k_is)
    (case c__law_draw => k_is)
    (case k__law_draw => k_is)
    (case a__law_two_to => k_is)
    (case l__law_two_to => k_is)
    (case c__law_two_to => k_is)
    (case k__law_two_to => k_is)
    (case a__law_sum_at => k_is)
    (case l__law_sum_at => k_is)
    (case c__law_sum_at => k_is)
    (case k__law_sum_at => k_is)
    (case a__law_flows => k_is)
    (case l__law_flows => k_is)
    (case c__law_flows => k_is)
    (case k__law_flows => k_is)
    (case a__law_place => k_is)
    (case l__law_place => k_is)
    (case c__law_place => k_is)
    (case k__law_place => k_is)
    (case a_law => k_is)
    (case l_law => k_is)
    (case c_law => k_is)
    (case k_law => k_is)
    (case third => k_is)
    (case zsuper => k_is)
    (case spc => k_is)
    (case tkc => k_is)
    (case a_BookError => k_is)
    (case ga_BookError => k_is)
    (case gg_BookError => k_is)
    (case sb_BookError => k_is)
    (case hd_BookError => k_is)
    (case ha_BookError => k_is)
    (case hm_BookError => k_is)
    (case ty_BookError => k_is)
    (case se_BookError => k_is)
    (case a_OutOfRange => k_is)
    (case ga_OutOfRange => k_is)
    (case gg_OutOfRange => k_is)
    (case sb_OutOfRange => k_is)
    (case hd_OutOfRange => k_is)
    (case ha_OutOfRange => k_is)
    (case hm_OutOfRange => k_is)
    (case ty_OutOfRange => k_is)
    (case se_OutOfRange => k_is)
    (case xL_OutOfRange => k_is)
    (case sa_OutOfRange => k_is)
    (case kp_OutOfRange => k_is)
    (case i_OutOfRange => k_is)
    (case ti_OutOfRange => k_is)
    (case li_OutOfRange => k_is)
    (case ci_OutOfRange => k_is)
    (case ce_OutOfRange => k_is)
    (case co_OutOfRange => k_is)
    (case vs_OutOfRange => rfl)
    (case fi_OutOfRange => decide +kernel)
    (case su_OutOfRange => ks_is)
    (case ve_OutOfRange => k_is)
    (case n_OutOfRange_label => k_is)
    (case n_OutOfRange_value => k_is)
    (case y_BookError_BookError => k_is)
    (case y_BookError_OutOfRange => k_is)
    (case yv_BookError => k_is)
    (case y_OutOfRange_BookError => k_is)
    (case y_OutOfRange_OutOfRange => k_is)
    (case yv_OutOfRange => k_is)
    (case a_MOST_FLOWS => k_is)
    (case a_MOST_BITS => k_is)
    (case z_max => k_is)
    (case z_len => k_is)
    (case z_range => k_is)
    (case z_isinstance => k_is)
    (case z_bool => k_is)
    (case z_int => k_is)
    (case z_abs => k_is)
    (case z_min => k_is)
    (case z_list => k_is)
    (case z_str => k_is)
