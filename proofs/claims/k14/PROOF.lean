import PyProof.Rows.All
import Wide.All
import OpenK.AllK
import Wide.FinOn
import HandS.ForExc
import HandS.Comp
import HandS.Defaults
import HandS.IsInst
import HandS.Wide
import HandS.EndBits
import HandS.TryMany
import HandS.ExcField
import HandS.ExcInit
import HandS.Evl
import HandS.Gcd
import HandS.Nested
import HandS.FStr
import KE.KExcSuper
import HandS.ExcIs
import HandS.Text
import HandS.Iter
import PySem.Challenge.RW_lendbook_k14_names
set_option Elab.async false
set_option linter.all false
set_option maxRecDepth 100000
set_option maxHeartbeats 4000000
/-! own small rules over the hand layer -/
namespace LB
open PySem PySem.Spec PyProof.Rows L2
theorem bt_int : bootBuiltins "int" = some (.type "int") := by decide +kernel
theorem bt_bool : bootBuiltins "bool" = some (.type "bool") := by decide +kernel
theorem bt_str : bootBuiltins "str" = some (.type "str") := by decide +kernel
theorem bt_list : bootBuiltins "list" = some (.type "list") := by decide +kernel
theorem bt_tuple : bootBuiltins "tuple" = some (.type "tuple") := by decide +kernel
theorem bt_dict : bootBuiltins "dict" = some (.type "dict") := by decide +kernel
theorem bt_set : bootBuiltins "set" = some (.type "set") := by decide +kernel
theorem bt_range : bootBuiltins "range" = some (.type "range") := by decide +kernel
theorem bt_len : bootBuiltins "len" = some (.builtin "len") := by decide +kernel
theorem bt_abs : bootBuiltins "abs" = some (.builtin "abs") := by decide +kernel
theorem bt_isinstance : bootBuiltins "isinstance" = some (.builtin "isinstance") := by decide +kernel
theorem bt_sum : bootBuiltins "sum" = some (.builtin "sum") := by decide +kernel
theorem bt_min : bootBuiltins "min" = some (.builtin "min") := by decide +kernel
theorem bt_max : bootBuiltins "max" = some (.builtin "max") := by decide +kernel
theorem bt_sorted : bootBuiltins "sorted" = some (.builtin "sorted") := by decide +kernel
theorem bt_divmod : bootBuiltins "divmod" = some (.builtin "divmod") := by decide +kernel
theorem bt_any : bootBuiltins "any" = some (.builtin "any") := by decide +kernel
theorem bt_ValueError : bootBuiltins "ValueError" = some (.type "ValueError") := by decide +kernel
theorem bt_all : bootBuiltins "all" = some (.builtin "all") := by decide +kernel

/-! ### sizes of ints: i lies within n bits -/
structure Sz (n : Nat) (i : Int) : Prop where
  lt : i.natAbs < 2 ^ n
theorem Sz.log {n : Nat} {i : Int} (h : Sz n i) : i.natAbs.log2 ≤ n := by
  by_cases h0 : i.natAbs = 0
  · rw [h0]; exact Nat.zero_le _
  · exact Nat.le_of_lt ((Nat.log2_lt h0).mpr h.lt)
theorem Sz.zero (n : Nat) : Sz n 0 := ⟨Nat.pow_pos (by decide)⟩
theorem Sz.mono {m n : Nat} {i : Int} (h : Sz m i) (l : m ≤ n) : Sz n i := ⟨Nat.lt_of_lt_of_le h.lt (Nat.pow_le_pow_right (by decide) l)⟩
theorem Sz.add {m n : Nat} {i j : Int} (a : Sz m i) (b : Sz n j) : Sz (m + n + 1) (i + j) := by
  refine ⟨Nat.lt_of_le_of_lt (Int.natAbs_add_le i j) ?_⟩
  have h1 := (a.mono (Nat.le_add_right m n)).lt
  have h2 := (b.mono (Nat.le_add_left n m)).lt
  rw [Nat.pow_succ]
  omega
theorem Sz.neg {n : Nat} {i : Int} (a : Sz n i) : Sz n (-i) := ⟨by rw [Int.natAbs_neg]; exact a.lt⟩
theorem Sz.sub {m n : Nat} {i j : Int} (a : Sz m i) (b : Sz n j) : Sz (m + n + 1) (i - j) := by
  rw [Int.sub_eq_add_neg]
  exact a.add b.neg
theorem Sz.mul {m n : Nat} {i j : Int} (a : Sz m i) (b : Sz n j) : Sz (m + n) (i * j) := by
  refine ⟨?_⟩
  rw [Int.natAbs_mul, Nat.pow_add]
  exact Nat.mul_lt_mul'' a.lt b.lt
theorem Sz.le {n : Nat} {i j : Int} (a : Sz n j) (h : i.natAbs ≤ j.natAbs) : Sz n i := ⟨Nat.lt_of_le_of_lt h a.lt⟩
theorem Sz.div {n : Nat} {i j : Int} (a : Sz n i) : Sz n (i / j) := a.le (Int.natAbs_ediv_le_natAbs i j)
theorem Sz.mod {n : Nat} {i j : Int} (b : Sz n j) (h : 0 < j) : Sz n (i % j) := b.le (by
  have h1 := Int.emod_nonneg i (b := j) (by omega)
  have h2 := Int.emod_lt_of_pos i h
  omega)
theorem Sz.nn {n : Nat} {i j : Int} (b : Sz n j) (h0 : 0 ≤ i) (h : i ≤ j) : Sz n i := b.le (by omega)
theorem Sz.absv {n : Nat} {i : Int} (a : Sz n i) : Sz n (if i < 0 then -i else i) := by
  by_cases h : i < 0
  · rw [if_pos h]; exact a.neg
  · rw [if_neg h]; exact a
theorem Sz.bits {z : Int} {n : Nat} (h : Builtin.Int.intBits z ≤ n) : Sz n z := by
  refine ⟨?_⟩
  unfold Builtin.Int.intBits at h
  by_cases h0 : z = 0
  · subst h0
    exact Nat.pos_of_ne_zero (by simp)
  · have h1 : ¬ z.natAbs = 0 := by omega
    have h2 : z.natAbs.log2 + 1 ≤ n := by
      split at h
      · rename_i e
        first
          | exact absurd (by simpa using e) h0
          | omega
      · exact h
    exact (Nat.log2_lt h1).mp (by omega)

/-! ### products and quotients of any size -/
/-- a product that fits -/
def CM (i j : Int) : Prop := i.natAbs.log2 + j.natAbs.log2 < 134000000
theorem CM.ok {i j : Int} (h : CM i j) : IntMulOk i j := by
  have b : ∀ x : Int, Builtin.Int.intBits x ≤ x.natAbs.log2 + 1 := fun x => by
    unfold Builtin.Int.intBits
    split <;> omega
  have h1 := b i
  have h2 := b j
  have h3 : i.natAbs.log2 + j.natAbs.log2 < 134000000 := h
  have e := bitsLine_eq
  intro z
  have z2 := (Bool.and_eq_true_iff.mp z).2
  unfold Builtin.Int.intTooBig at z2
  have z3 := of_decide_eq_true z2
  rw [e] at z3
  omega
theorem CM.of {m n : Nat} {i j : Int} (a : Sz m i) (b : Sz n j) (h : m + n < 134000000 := by decide) : CM i j := by
  have h1 := a.log
  have h2 := b.log
  unfold CM
  omega
/-- a positive divisor of less than 9000 bits -/
def CD (_ j : Int) : Prop := 0 < j ∧ j.natAbs.log2 < 9000
theorem CD.of {n : Nat} {i j : Int} (h : 0 < j) (b : Sz n j) (hn : n < 9000 := by decide) : CD i j := ⟨h, Nat.lt_of_le_of_lt b.log hn⟩
theorem CM.of2 {m n : Nat} {i j : Int} (a : Sz m i) (b : Sz n j) (h : m + n < 134000000) : CM i j := CM.of a b h
theorem CD.of2 {n : Nat} {i j : Int} (b : Sz n j) (h : 0 < j) (hn : n < 9000) : CD i j := CD.of h b hn
theorem log2_mono {m n : Nat} (h : m ≤ n) : m.log2 ≤ n.log2 := by
  by_cases h0 : m = 0
  · rw [h0]; exact Nat.zero_le _
  · exact (Nat.le_log2 (by omega)).mpr (Nat.le_trans (Nat.log2_self_le h0) h)
theorem CM.rest {t b : Int} (c : CD t b) : CM 2 (t - t / b * b) := by
  obtain ⟨c1, c2⟩ := c
  have e : t - t / b * b = t % b := by
    have := Int.mul_ediv_add_emod t b
    rw [Int.mul_comm b] at this
    omega
  have h1 := Int.emod_nonneg t (b := b) (by omega)
  have h2 := Int.emod_lt_of_pos t c1
  have h3 := log2_mono (m := (t % b).natAbs) (n := b.natAbs) (by omega)
  show Nat.log2 2 + _ < _
  have h4 : Nat.log2 2 = 1 := by decide +kernel
  rw [e]
  omega
section
variable {X : Cx}
theorem op_mulB : OpR X (binaryOp .Mult) (rI CM fun i j => .int (i * j)) := opI fun _ _ _ _ _ _ _ hc q => mul_int q hc.ok
theorem op_fdivB : OpR X (binaryOp .FloorDiv) (rI CD fun i j => .int (i / j)) := op_fdivW
end

/-! ### the script's cells -/
def cell (ns : List Int) (i : Nat) : Int := ns.getD i 0
def Bits (ns : List Int) : Prop := ∀ z ∈ ns, Builtin.Int.intBits z ≤ 1048576
theorem cell_sz {ns : List Int} (h : Bits ns) (i : Nat) : Sz 1048576 (cell ns i) := by
  unfold cell
  rw [List.getD_eq_getElem?_getD]
  cases e : ns[i]? with
  | none => exact Sz.zero _
  | some z => exact Sz.bits (h z (List.mem_of_getElem? e))

theorem atI_map_cell {ns : List Int} {j : Nat} (h : j < ns.length) : atI (ns.map V.int) ((j : Nat) : Int) = some (V.int (cell ns j)) := by
  refine atI_nat ?_
  rw [List.getElem?_map, List.getElem?_eq_getElem h]
  unfold cell
  rw [List.getD_eq_getElem?_getD, List.getElem?_eq_getElem h]
  rfl
/-- the answer of isinstance(x, int) and not isinstance(x, bool), by the kind of x -/
def wholeV : V → Option Bool
  | .int _ => some true
  | .bl _ => some false
  | .str _ => some false
  | .non => some false
  | _ => none

/-! ### heaps that grow -/
theorem same_new {H H' : Hp} {p : Addr} {o : HO} (s : Same H H') (h : H' p = none) : Same H (upd H' p o) := fun b u e => by
  rw [upd_ne (ne_of_none (s b u e) h)]
  exact s b u e
theorem same_tup {K : PySem.W.Frag} {H H' : Hp} {a : Addr} {xs : List V} (e : Same H H') (h : SqT K H a xs) : SqT K H' a xs := Evl.ex_t e h
theorem same_lst {K : PySem.W.Frag} {H H' : Hp} {a : Addr} {xs : List V} (e : Same H H') (h : SqL K H a xs) : SqL K H' a xs := Evl.ex_l e h
theorem t_of {K : PySem.W.Frag} {H : Hp} {a : Addr} {xs : List V} (h : H a = some (.tup xs)) : SqT K H a xs := Or.inl (Or.inl h)
theorem l_of {K : PySem.W.Frag} {H : Hp} {a : Addr} {xs : List V} (h : H a = some (.lst xs)) : SqL K H a xs := Or.inl (Or.inl h)
theorem lst_upd {K : PySem.W.Frag} {H : Hp} {a p : Addr} {o : HO} {xs : List V} (e : H p = none) (h : SqL K H a xs) : SqL K (upd H p o) a xs := same_lst (same_new (Same.refl H) e) h
theorem tup_upd {K : PySem.W.Frag} {H : Hp} {a p : Addr} {o : HO} {xs : List V} (e : H p = none) (h : SqT K H a xs) : SqT K (upd H p o) a xs := same_tup (same_new (Same.refl H) e) h
/-- a law's promise: a list of at most 63 ints of at most 2^20 bits each is handed in, True comes out -/
def sp_law (K : PySem.W.Frag) : Sp := fun vs H Q _ => ∃ (a : Addr) (ns : List Int), vs = [.ref a] ∧ SqL K H a (ns.map V.int) ∧ ns.length ≤ 63 ∧ Bits ns ∧ ∀ H', Q (.bl true) H'
theorem passX {X : Cx} : Passes (L2.CX X.prog X.w) X E0 := fun _ _ _ _ _ _ _ h => by
  obtain ⟨_, _, _, _, _, _, _, _, _, _, _, _, z⟩ := h
  exact z.elim
theorem passXS {X : Cx} (σ : L2.St) : PassesAt (L2.CX X.prog X.w) X σ ((fun _ => E0 : L2.St → XK) σ) := fun _ _ _ _ _ _ h => by
  obtain ⟨_, _, _, _, _, _, _, _, _, _, _, _, z⟩ := h
  exact z.elim
theorem walk {l : PySem.W.OpenLaw} {k : Nat} {q : Program} {loose : List Str} {XP : (Str → Option Value) → Heap → Prop} {YP : World → Heap → Prop} {d : DefRec} {K : Params → PySem.W.Frag} (hn : l.most = some 63) (hdf : d.params.defaults = [])
    (hr : Room k callerA) (hY : ∀ (w : World) (h : Heap), YP w h → (K w.params).In h)
    (F : ∀ (w : World) (mg : Str → Option Value) (fa : Addr) (h : Heap), (K w.params).In h → h.Ns mainGlobals mg → mg d.name = some (.ref fa) →
      ∃ fd : FuncData, (∀ (s : Shared) (u : Value), BindsTo s fd ⟨[u], []⟩ [("script", u)]) ∧ ∀ base : Heap, (K w.params).In base → base.Ns mainGlobals mg → FnOk l.prog w (K w.params) mg base (L2.CX l.prog w) k fa fd ["script"] (sp_law (K w.params))) :
    PySem.W.WalkO q loose XP YP l.row.toRowW d [] (fun f vs => PySem.call f vs) :=
  L2.walk_ofB (n := 63) (k := k) (x := "script") (CX := fun w => L2.CX l.prog w) (sp := fun w => sp_law (K w.params)) hn (by decide) hdf hr hY F (fun _ _ a ns hl hb _ hS => ⟨a, ns, rfl, hS, hl, hb, fun _ => rfl⟩) fun _ _ _ _ _ h => by
    obtain ⟨_, _, _, _, _, _, _, _, _, _, _, _, z⟩ := h
    exact z.elim
/-- a def without defaults, as the top leaves it -/
theorem fun_of {K : PySem.W.Frag} {x qual : Str} {pa : Arguments} {bd : List Stmt} {sc : Scope} {f : Addr} {oc : Value} {od an : Option Addr} {osl : Array (Option Value)} {kV doc pm cdv ct : Value}
    (l : K.lookup f = some ⟨oc, od, .func (PySem.W.fnOf x qual pa bd sc .none kV doc pm an cdv ct), osl⟩) (c : PySem.W.codeIn K cdv qual = true) (k : PySem.W.keepIn K (.ref f) = true) :
    FunD K x qual pa bd sc [] [] f (PySem.W.fnOf x qual pa bd sc .none kV doc pm an cdv ct) := ⟨⟨oc, od, .none, kV, doc, pm, an, cdv, ct, osl, rfl, l, c, .inl ⟨rfl, rfl⟩, .inl rfl⟩, k⟩
/-! ### items by their place -/
section
variable {K : PySem.W.Frag} {H : Hp} {p : Addr} {xs : List V} {i : Int} {v : V} {Q : VK}
theorem ixT_go (h : SqT K H p xs) (e : atI xs i = some v) (q : Q v H) : rIxT K (.ref p) (.int i) H Q := ⟨p, xs, i, v, rfl, rfl, h, e, q⟩
theorem ixL_go (h : SqL K H p xs) (e : atI xs i = some v) (q : Q v H) : rIxL K (.ref p) (.int i) H Q := ⟨p, xs, i, v, rfl, rfl, h, e, q⟩
theorem ixUT_go (h : SqT K H p xs) (e : atI xs i = some v) (q : Q v H) : rIx K (.ref p) (.int i) H Q := .inr (.inl (ixT_go h e q))
theorem ixUL_go (h : SqL K H p xs) (e : atI xs i = some v) (q : Q v H) : rIx K (.ref p) (.int i) H Q := .inl (ixL_go h e q)
end
/-! ### ways -/
theorem iteD {p A B : Prop} [Decidable p] (h1 : p → A) (h2 : ¬ p → B) : if decide p = true then A else B := by
  by_cases h : p
  · rw [decide_eq_true h]; exact iteT (h1 h)
  · rw [decide_eq_false h]; exact iteF (h2 h)
theorem iteDN {p A B : Prop} [Decidable p] (h1 : ¬ p → A) (h2 : p → B) : if (!decide p) = true then A else B := by
  by_cases h : p
  · rw [decide_eq_true h]; exact iteF (h2 h)
  · rw [decide_eq_false h]; exact iteT (h1 h)
theorem iteI {x y : Int} {A B : Prop} (h1 : x = y → A) (h2 : x ≠ y → B) : if decide (V.int x = V.int y) = true then A else B :=
  iteD (fun h => h1 (V.int.inj h)) fun h => h2 fun e => h (congrArg V.int e)
theorem iteIN {x y : Int} {A B : Prop} (h1 : x ≠ y → A) (h2 : x = y → B) : if (!decide (V.int x = V.int y)) = true then A else B :=
  iteDN (fun h => h1 fun e => h (congrArg V.int e)) fun h => h2 (V.int.inj h)
theorem iteS {x y : Str} {A B : Prop} (h1 : x = y → A) (h2 : x ≠ y → B) : if decide (V.str x = V.str y) = true then A else B :=
  iteD (fun h => h1 (V.str.inj h)) fun h => h2 fun e => h (congrArg V.str e)
theorem iteSN {x y : Str} {A B : Prop} (h1 : x ≠ y → A) (h2 : x = y → B) : if (!decide (V.str x = V.str y)) = true then A else B :=
  iteDN (fun h => h1 fun e => h (congrArg V.str e)) fun h => h2 (V.str.inj h)
theorem iteLen {xs : List V} {y : Int} {A B : Prop} (e : ((xs.length : Nat) : Int) = y) (h : A) : if decide (V.int ((xs.length : Nat) : Int) = V.int y) = true then A else B := by
  subst e
  rw [decide_eq_true rfl]
  exact iteT h
theorem iteLenN {xs : List V} {y : Int} {A B : Prop} (e : ((xs.length : Nat) : Int) = y) (h : B) : if (!decide (V.int ((xs.length : Nat) : Int) = V.int y)) = true then A else B := by
  subst e
  rw [decide_eq_true rfl]
  exact iteF h
theorem iteB {b : Bool} {A B : Prop} (h1 : b = true → A) (h2 : b = false → B) : if b = true then A else B := by
  cases b
  · exact iteF (h2 rfl)
  · exact iteT (h1 rfl)
theorem iteBN {b : Bool} {A B : Prop} (h1 : b = false → A) (h2 : b = true → B) : if (!b) = true then A else B := by
  cases b
  · exact iteT (h1 rfl)
  · exact iteF (h2 rfl)
theorem q_int {Q : VK} {x y : Int} {H : Hp} (q : Q (.int x) H) (e : x = y) : Q (.int y) H := e ▸ q
theorem q_bl {Q : VK} {x y : Bool} {H : Hp} (q : Q (.bl x) H) (e : x = y) : Q (.bl y) H := e ▸ q
/-- a statement whose ways meet: P holds behind each of them -/
def tCut (t : TS) : TS := fun D σ H => ∃ W : L2.St → Hp → Prop, t { D with nx := W } σ H ∧ ∀ σ' H', W σ' H' → D.nx σ' H'
theorem ps_cut {X : Cx} {st : Stmt} {t : TS} (h : PS X st t) : PS X st (tCut t) := by
  refine ⟨fun pins s σ H D I hw => ?_⟩
  obtain ⟨W, h1, h2⟩ := hw
  refine thn (h.run pins s σ H _ I h1) fun f s' q => ?_
  cases f with
  | next =>
    obtain ⟨σ', H', I', q'⟩ := q
    exact ⟨σ', H', I', h2 σ' H' q'⟩
  | brk => exact q
  | cont => exact q
  | ret u => exact q
/-! ### what the top has written -/
def relB : V → Value → Bool
  | .non, .none => true
  | .bl b, .bool c => b == c
  | .int i, .int j _ => i == j
  | .str x, .str y _ => x == y
  | .ref a, .ref b => a == b
  | .ty n, .type m => n == m
  | _, _ => false
theorem relB_ok : ∀ {v : V} {u : Value}, relB v u = true → RelV v u
  | .non, .none, _ => rfl
  | .bl b, .bool c, h => by
    have e : b = c := by simpa [relB] using h
    rw [e]; exact rfl
  | .int i, .int j t, h => by
    have e : i = j := by simpa [relB] using h
    rw [e]; exact ⟨t, rfl⟩
  | .str x, .str y t, h => by
    have e : x = y := by simpa [relB] using h
    rw [e]; exact ⟨t, rfl⟩
  | .ref a, .ref b, h => by
    have e : a = b := by simpa [relB] using h
    rw [e]; exact rfl
  | .ty n, .type m, h => by
    have e : n = m := by simpa [relB] using h
    rw [e]; exact rfl
def valsB : List V → List Value → Bool
  | [], [] => true
  | v :: vs, u :: us => relB v u && valsB vs us
  | _, _ => false
theorem valsB_ok : ∀ {vs : List V} {us : List Value}, valsB vs us = true → Vals vs us
  | [], [], _ => .nil
  | v :: vs, u :: us, h => by
    have h2 := Bool.and_eq_true_iff.mp h
    exact .cons (relB_ok h2.1) (valsB_ok h2.2)
  | [], _ :: _, h => by cases h
  | _ :: _, [], h => by cases h
theorem tup_of {K : PySem.W.Frag} {H : Hp} {a : Addr} {od : Option Addr} {its : Array Value} {n : Nat} {sl : Array (Option Value)} {xs : List V} (l : K.lookup a = some ⟨.type "tuple", od, .seq its n, sl⟩) (v : valsB xs its.toList = true) (h : xs.length ≤ 1000 := by decide) : SqT K H a xs := by
  have r := valsB_ok v
  refine .inr ⟨_, its, n, l, rfl, rfl, ?_, r⟩
  have e : its.size = xs.length := by rw [r.length]; simp
  rw [e, sizeLine_eq]
  omega
/-- a def with defaults -/
theorem fun_ofD {K : PySem.W.Frag} {x qual : Str} {pa : Arguments} {bd : List Stmt} {sc : Scope} {f t : Addr} {oc : Value} {od an odt : Option Addr} {osl slt : Array (Option Value)} {kV doc pm cdv ct : Value} {its : Array Value} {n : Nat} {dvs : List V}
    (l : K.lookup f = some ⟨oc, od, .func (PySem.W.fnOf x qual pa bd sc (.ref t) kV doc pm an cdv ct), osl⟩) (c : PySem.W.codeIn K cdv qual = true) (k : PySem.W.keepIn K (.ref f) = true)
    (lt : K.lookup t = some ⟨.type "tuple", odt, .seq its n, slt⟩) (v : valsB dvs its.toList = true) (hd : dvs ≠ [] := by intro z; cases z) :
    FunD K x qual pa bd sc dvs [] f (PySem.W.fnOf x qual pa bd sc (.ref t) kV doc pm an cdv ct) := ⟨⟨oc, od, _, kV, doc, pm, an, cdv, ct, osl, rfl, l, c, .inr ⟨hd, t, _, its.toList, n, rfl, lt, by simp, valsB_ok v⟩, .inl rfl⟩, k⟩
section
variable {X : Cx} {CX : CXT} {k : Nat} {f : Addr} {fd : FuncData} {ps : List Str} {sp : Sp} {E : L2.St → XK} {x : Str} {p pos : Pos} {e : Expr} {es : List Expr} {t : TA} {dvs : List V}
def tCallD (sp : Sp) (dvs : List V) (E : L2.St → XK) (t : TA) : TE := fun σ H Q => t σ H fun vs H1 => sp (vs ++ dvs) H1 Q (E σ)
/-- f(e, ..), the defaults dvs fill up -/
theorem pe_callSD (F : FnOk X.prog X.w X.K X.mg X.base CX k f fd ps sp) (hr : Room k X.A) (hg : Gl X x) (hm : X.mg x = some (.ref f)) (hk : PySem.W.keepIn X.K (.ref f) = true) (hb : ∃ ds, Vals dvs ds ∧ Binds X.K fd ps ds) (hx : ∀ σ, PassesAt CX X σ (E σ))
    (ha : PA X (e :: es) t) (hdb : (x == ("__debug__" : Str)) = false := by decide) (he : starEach (e :: es) X.env = (false, eval e X.env) :: starEach es X.env := by rfl) (hpl : (backTo pos (starEach es X.env)).any (·.1) = false := by rfl) :
    PE X (.Call (.Name x p) (e :: es) [] pos) (tCallD sp dvs E t) := by
  obtain ⟨ds, hd, hb⟩ := hb
  refine ⟨fun pins s σ H Q I h => ?_⟩
  refine wpAny_Call_Name_kw (ld_glob I hg hm ?_ hdb)
  refine PySem.W.callWith_K (h₀ := X.base) I.ok.mod.kin hk (thn (ha.run pos pins s σ H _ I h) fun us s1 hh => ?_) he hpl
  obtain ⟨vs, H1, I1, r, q⟩ := hh
  have r2 : Vals (vs ++ dvs) (us ++ ds) := r.append hd
  refine ⟨I1.kIn, ?_⟩
  show wpAny _ _ (call (.ref f) us) _ _ _
  refine wpAny_call (codeAny_mono (F.run X.A X.stack s1 H1 ⟨us, []⟩ (us ++ ds) (vs ++ dvs) Q (E σ) hr I1.env0 (hb s1 us I1.kIn (r2.length.symm.trans (F.len _ _ _ _ q))) r2 q) fun rr s' hq => ?_)
  cases rr with
  | error e => exact hx σ pins H1 s1 e s' I1 hq
  | ok fl =>
    cases fl with
    | ret u => exact I1.after hq
    | next => exact False.elim hq
    | brk => exact False.elim hq
    | cont => exact False.elim hq
end
/-- one that stays behind a wall: nothing steps into it -/
structure Wall (p : Prop) : Prop where
  get : True → p
theorem wall {p : Prop} (h : p) : Wall p := ⟨fun _ => h⟩
theorem Wall.in_ {p q : Prop} (h : p → q) : Wall p → q := fun k => h (k.get trivial)
/-! ### == of flat lists and tuples -/
def pd : V → PyData
  | .bl b => .bool b
  | .int i => .int i
  | .str x => .str x
  | _ => .none
def okS (x : Str) : Bool := x.cps.toList.all fun c => Nat.blt c 0x110000
theorem okS_ok {x : Str} (h : okS x = true) : PyData.strOk x = true := by
  unfold PyData.strOk
  unfold okS at h
  rw [Array.all_toList] at h
  rw [← h]
  congr 1
  funext c
  show decide (c < 1114112) = Nat.blt c 1114112
  rw [Bool.eq_iff_iff, decide_eq_true_iff, Nat.blt_eq]
def flatS : V → Bool
  | .non => true
  | .bl _ => true
  | .int _ => true
  | .str x => okS x
  | _ => false
def eqL : List V → List V → Bool
  | [], [] => true
  | x :: xs, y :: ys => eqV x y && eqL xs ys
  | _, _ => false
theorem eqL_self : ∀ {xs : List V}, xs.all flatS = true → eqL xs xs = true
  | [], _ => rfl
  | x :: xs, h => by
    have h2 := Bool.and_eq_true_iff.mp (List.all_cons .. ▸ h)
    refine Bool.and_eq_true_iff.mpr ⟨?_, eqL_self h2.2⟩
    cases x <;> first | (exact absurd (show false = true from h2.1) Bool.false_ne_true) | simp [eqV]
theorem dp_pd {K : PySem.W.Frag} {H : Hp} : ∀ {x : V}, flatS x = true → Dp K H x (pd x)
  | .non, _ => .non
  | .bl b, _ => .bl b
  | .int i, _ => .int i
  | .str x, _ => .str x
  | .byt _, h => absurd (show false = true from h) Bool.false_ne_true
  | .flt _, h => absurd (show false = true from h) Bool.false_ne_true
  | .ref _, h => absurd (show false = true from h) Bool.false_ne_true
  | .ty _, h => absurd (show false = true from h) Bool.false_ne_true
theorem dpAll_pd {K : PySem.W.Frag} {H : Hp} : ∀ {xs : List V}, xs.all flatS = true → DpAll K H xs (xs.map pd)
  | [], _ => .nil
  | x :: xs, h => by
    have h2 := Bool.and_eq_true_iff.mp (List.all_cons .. ▸ h)
    exact .cons (dp_pd h2.1) (dpAll_pd h2.2)
theorem lay_pd : ∀ {x : V}, flatS x = true → (pd x).canLay0 = true ∧ (pd x).depth = 0 := fun {x} h => by
  cases x <;> first | (exact absurd (show false = true from h) Bool.false_ne_true) | (refine ⟨?_, ?_⟩ <;> simp only [pd, PyData.canLay0, PyData.depth]) 
  all_goals exact okS_ok h
theorem layAll_pd : ∀ {xs : List V}, xs.all flatS = true → PyData.canLayAll0 (xs.map pd) = true ∧ PyData.depthAll (xs.map pd) = 0
  | [], _ => ⟨by simp only [List.map, PyData.canLayAll0], by simp only [List.map, PyData.depthAll]⟩
  | x :: xs, h => by
    have h2 := Bool.and_eq_true_iff.mp (List.all_cons .. ▸ h)
    have a := lay_pd h2.1
    have b := layAll_pd h2.2
    simp only [List.map, PyData.canLayAll0, PyData.depthAll, a.1, a.2, b.1, b.2]
    decide
theorem shaped_pd {xs : List V} (h : xs.all flatS = true) : SeqAt.shaped (.tuple (xs.map pd)) = true ∧ SeqAt.shaped (.list (xs.map pd)) = true := by
  have a := layAll_pd h
  unfold SeqAt.shaped
  simp only [PyData.canLay0, PyData.depth, a.1, a.2]
  decide
theorem eqv_pd : ∀ {x y : V}, flatS x = true → flatS y = true → PyData.eqv (pd x) (pd y) = eqV x y := fun {x y} hx hy => by
  cases x <;> first | (exact absurd (show false = true from hx) Bool.false_ne_true) | skip
  all_goals cases y <;> first | (exact absurd (show false = true from hy) Bool.false_ne_true) | (simp only [pd, PyData.eqv, eqV])
theorem eqvAll_pd : ∀ {xs ys : List V}, xs.all flatS = true → ys.all flatS = true → PyData.eqvAll (xs.map pd) (ys.map pd) = eqL xs ys
  | [], [], _, _ => by simp only [List.map, PyData.eqvAll, eqL]
  | [], _ :: _, _, _ => by simp only [List.map, PyData.eqvAll, eqL]
  | _ :: _, [], _, _ => by simp only [List.map, PyData.eqvAll, eqL]
  | x :: xs, y :: ys, h, k => by
    have h2 := Bool.and_eq_true_iff.mp (List.all_cons .. ▸ h)
    have k2 := Bool.and_eq_true_iff.mp (List.all_cons .. ▸ k)
    simp only [List.map, PyData.eqvAll, eqL, eqv_pd h2.1 k2.1, eqvAll_pd h2.2 k2.2]
section
variable {K : PySem.W.Frag} {H : Hp} {a b : Addr} {xs ys : List V} {Q : VK}
theorem eqD_T (h1 : SqT K H a xs) (h2 : SqT K H b ys) (f1 : xs.all flatS = true) (f2 : ys.all flatS = true) (q : Q (.bl (eqL xs ys)) H) : rEqD K (.ref a) (.ref b) H Q := by
  refine ⟨_, _, .tup h1 (dpAll_pd f1), .tup h2 (dpAll_pd f2), (shaped_pd f1).1, (shaped_pd f2).1, ?_⟩
  simp only [PyData.eqv, eqvAll_pd f1 f2]
  exact q
theorem neD_T (h1 : SqT K H a xs) (h2 : SqT K H b ys) (f1 : xs.all flatS = true) (f2 : ys.all flatS = true) (q : Q (.bl (!eqL xs ys)) H) : rNeD K (.ref a) (.ref b) H Q := by
  refine ⟨_, _, .tup h1 (dpAll_pd f1), .tup h2 (dpAll_pd f2), (shaped_pd f1).1, (shaped_pd f2).1, ?_⟩
  simp only [PyData.eqv, eqvAll_pd f1 f2]
  exact q
theorem eqD_L (h1 : SqL K H a xs) (h2 : SqL K H b ys) (f1 : xs.all flatS = true) (f2 : ys.all flatS = true) (q : Q (.bl (eqL xs ys)) H) : rEqD K (.ref a) (.ref b) H Q := by
  refine ⟨_, _, .lst h1 (dpAll_pd f1), .lst h2 (dpAll_pd f2), (shaped_pd f1).2, (shaped_pd f2).2, ?_⟩
  simp only [PyData.eqv, eqvAll_pd f1 f2]
  exact q
theorem neD_L (h1 : SqL K H a xs) (h2 : SqL K H b ys) (f1 : xs.all flatS = true) (f2 : ys.all flatS = true) (q : Q (.bl (!eqL xs ys)) H) : rNeD K (.ref a) (.ref b) H Q := by
  refine ⟨_, _, .lst h1 (dpAll_pd f1), .lst h2 (dpAll_pd f2), (shaped_pd f1).2, (shaped_pd f2).2, ?_⟩
  simp only [PyData.eqv, eqvAll_pd f1 f2]
  exact q
/-- the same items: equal -/
theorem eqD_TT (h1 : SqT K H a xs) (h2 : SqT K H b ys) (e : xs = ys) (f : xs.all flatS = true) (q : Q (.bl true) H) : rEqD K (.ref a) (.ref b) H Q := by
  subst e
  exact eqD_T h1 h2 f f ((eqL_self f).symm ▸ q)
theorem neD_TT (h1 : SqT K H a xs) (h2 : SqT K H b ys) (e : xs = ys) (f : xs.all flatS = true) (q : Q (.bl false) H) : rNeD K (.ref a) (.ref b) H Q := by
  subst e
  exact neD_T h1 h2 f f (by rw [eqL_self f]; exact q)
theorem eqD_LL (h1 : SqL K H a xs) (h2 : SqL K H b ys) (e : xs = ys) (f : xs.all flatS = true) (q : Q (.bl true) H) : rEqD K (.ref a) (.ref b) H Q := by
  subst e
  exact eqD_L h1 h2 f f ((eqL_self f).symm ▸ q)
theorem neD_LL (h1 : SqL K H a xs) (h2 : SqL K H b ys) (e : xs = ys) (f : xs.all flatS = true) (q : Q (.bl false) H) : rNeD K (.ref a) (.ref b) H Q := by
  subst e
  exact neD_L h1 h2 f f (by rw [eqL_self f]; exact q)
end
/-! ### isinstance -/
theorem tyx_t {K : PySem.W.Frag} {H : Hp} {a : Addr} {xs : List V} (h : SqT K H a xs) : TyX K H (.ref a) (.type "tuple") := by
  rcases h with (h | ⟨o, h⟩) | ⟨o, its, n, h1, h2, _⟩
  · exact .base (.tup h)
  · exact .fTuple h
  · exact .kTuple h1 h2
theorem tyx_l {K : PySem.W.Frag} {H : Hp} {a : Addr} {xs : List V} (h : SqL K H a xs) : TyX K H (.ref a) (.type "list") := by
  rcases h with (h | ⟨o, h⟩) | ⟨o, its, n, h1, h2, _⟩
  · exact .base (.lst h)
  · exact .base (.frz h)
  · exact .kList h1 h2
@[irreducible] def rIs (K : PySem.W.Frag) : List V → Hp → VK → Prop := fun xs H Q => rIsi K xs H Q
theorem call_is {X : Cx} : CallR X (.builtin "isinstance") (rIs X.K) := fun pins s σ H xs us Q I r h => call_isi pins s σ H xs us Q I r (by unfold rIs at h; exact h)
theorem isi_go {K : PySem.W.Frag} {H : Hp} {x : V} {a b : String} {r : Bool} {Q : VK} (h : TyX K H x (.type a)) (k : kitB a b = some r) (q : Q (.bl r) H) : rIs K [x, .ty b] H Q := by
  unfold rIs
  exact ⟨_, _, _, _, r, rfl, .ty _, h, kit_ty k, q⟩
theorem not_pos {b : Bool} (h : b = false) : (!b) = true := by rw [h]; rfl
def any1 : List V → Prop := fun _ => True
/-! ### len -/
@[irreducible] def rLn (K : PySem.W.Frag) : List V → Hp → VK → Prop := fun xs H Q => ∃ p ys, xs = [.ref p] ∧ (SqL K H p ys ∨ SqT K H p ys) ∧ Q (.int ys.length) H
theorem call_ln {X : Cx} : CallR X (.builtin "len") (rLn X.K) := fun pins s σ H xs us Q I r h => call_len_seq pins s σ H xs us Q I r (by unfold rLn at h; exact h)
section
variable {K : PySem.W.Frag} {H : Hp} {p : Addr} {ys : List V} {Q : VK}
theorem ln_t (h : SqT K H p ys) (q : Q (.int ys.length) H) : rLn K [.ref p] H Q := by
  unfold rLn
  exact ⟨_, _, rfl, .inr h, q⟩
theorem ln_l (h : SqL K H p ys) (q : Q (.int ys.length) H) : rLn K [.ref p] H Q := by
  unfold rLn
  exact ⟨_, _, rfl, .inl h, q⟩
end
theorem same_set {H H' : Hp} {p : Addr} {o : HO} (s : Same H H') (h : H p = none) : Same H (upd H' p o) := fun b u e => by
  have hb : b ≠ p := fun z => by
    rw [z, h] at e
    cases e
  rw [upd_ne hb]
  exact s b u e
theorem map_len {α : Type} {f : α → V} {xs : List α} : (((xs.map f).length : Nat) : Int) = ((xs.length : Nat) : Int) := by rw [List.length_map]
theorem range_snoc {f : Nat → Int} {i : Nat} {y : Int} (e : f i = y) : ((List.range i).map f).map V.int ++ [V.int y] = ((List.range (i + 1)).map f).map V.int := by
  subst e
  rw [List.range_succ, List.map_append, List.map_append]
  rfl
theorem atI_map {ns : List Int} {j : Nat} (h : j < ns.length) : atI (ns.map V.int) (0 + ((j : Nat) : Int)) = some (V.int (ns.getD j 0)) := by
  rw [Int.zero_add]
  exact atI_map_cell h
/-! ### methods of lists -/
@[irreducible] def rApp : V → List V → Hp → VK → Prop := fun x vs H Q => rAppend x vs H Q
theorem mt_app {X : Cx} : MtM X "list.append" rApp := fun pins s σ H x vs v us Q I rx rv h => mt_append pins s σ H x vs v us Q I rx rv (by unfold rApp at h; exact h)
theorem app_go {H : Hp} {l : Addr} {xs : List V} {y : V} {Q : VK} (e : H l = some (.lst xs)) (hl : xs.length < sizeLine) (q : Q .non (upd H l (.lst (xs ++ [y])))) : rApp (.ref l) [y] H Q := by
  unfold rApp
  exact ⟨l, xs, y, rfl, rfl, e, hl, q⟩
theorem ty_l {K : PySem.W.Frag} {H : Hp} {p : Addr} {xs : List V} (h : SqL K H p xs) : tyV K "list" (.ref p) H := .inl ⟨rfl, _, h⟩
theorem ty_s {K : PySem.W.Frag} {H : Hp} {z : Str} : tyV K "str" (.str z) H := rfl
theorem ty_d {K : PySem.W.Frag} {H : Hp} {p : Addr} {kvs : List (Key × V)} (h : H p = some (.dK kvs)) : tyV K "dict" (.ref p) H := .inr (.inr (.inl ⟨rfl, .inl ⟨_, h⟩⟩))
/-! ### a call that writes all parameters, the last ones by name -/
section
variable {K : PySem.W.Frag} {x qual : Str} {params : Arguments} {body : List Stmt} {scope : Scope} {dvs : List V} {kws : List (Str × V)} {f : Addr} {fd : FuncData} {ps : List Str}
theorem kb_all (F : FunD K x qual params body scope dvs kws f fd) (n : Nat) (ks : List Str) (hd : dvs ≠ [])
    (h : ∀ (T : Addr) (kV doc pm : Value) (an : Option Addr) (cdv ct : Value) (us its ws : List Value), us.length = n → its.length = dvs.length → ws.length = ks.length →
      ∃ k, bindArgs (PySem.W.fnOf x qual params body scope (.ref T) kV doc pm an cdv ct) ⟨us, ks.zip ws⟩ = seqItems? (.ref T) >>= k ∧ k (some its.toArray) = pure (ps.zip (us ++ ws))) :
    KBn K fd ps n ks (fun us ws => us ++ ws) (fun vs zs => vs ++ zs) := by
  obtain ⟨oc, od, dV, kV, doc, pm, an, cdv, ct, osl, rfl, lk, hcd, hD, hK⟩ := F.ex
  rcases hD with ⟨e, _⟩ | ⟨_, t, o, its, m, rfl, lT, oT, rT⟩
  · exact absurd e hd
  · refine ⟨fun s us ws X l1 l2 => ?_, fun r1 r2 => r1.append r2⟩
    obtain ⟨k, e1, e2⟩ := h t kV doc pm an cdv ct us its ws l1 rT.length.symm l2
    refine BindsTo.of_looks fun M => ?_
    rw [e1]
    exact looks_items X lT oT (.of_pure e2)
end
/-! ### a, b, c = pair -/
theorem gTup_go {K : PySem.W.Frag} {n : Nat} {t : TGs} {a : Addr} {xs : List V} {σ : L2.St} {H : Hp} {Q : L2.St → Hp → Prop} (h : SqT K H a xs) (l : xs.length = n) (q : t xs σ H Q) : gTup K n t (.ref a) σ H Q := ⟨a, xs, rfl, h, l, q⟩
theorem gCons_go {t : TG} {u : TGs} {v : V} {r : List V} {σ : L2.St} {H : Hp} {Q : L2.St → Hp → Prop} (q : t v σ H fun σ' H' => u r σ' H' Q) : gCons t u (v :: r) σ H Q := ⟨v, r, rfl, q⟩
theorem gNil_go {σ : L2.St} {H : Hp} {Q : L2.St → Hp → Prop} (q : Q σ H) : gNil [] σ H Q := ⟨rfl, q⟩
/-! ### min and max of two -/
@[irreducible] def rMn : List V → Hp → VK → Prop := fun xs H Q => ∃ i j, xs = [.int i, .int j] ∧ Q (.int (if j < i then j else i)) H
@[irreducible] def rMx : List V → Hp → VK → Prop := fun xs H Q => ∃ i j, xs = [.int i, .int j] ∧ Q (.int (if i < j then j else i)) H
theorem call_mn {X : Cx} (hc : X.calm = true) : CallR X (.builtin "min") rMn := fun pins s σ H xs us Q I r h => call_min2 hc pins s σ H xs us Q I r (by unfold rMn at h; exact h)
theorem call_mx {X : Cx} (hc : X.calm = true) : CallR X (.builtin "max") rMx := fun pins s σ H xs us Q I r h => call_max2 hc pins s σ H xs us Q I r (by unfold rMx at h; exact h)
theorem mn_go {i j : Int} {H : Hp} {Q : VK} (q : Q (.int (if j < i then j else i)) H) : rMn [.int i, .int j] H Q := by
  unfold rMn
  exact ⟨i, j, rfl, q⟩
theorem mx_go {i j : Int} {H : Hp} {Q : VK} (q : Q (.int (if i < j then j else i)) H) : rMx [.int i, .int j] H Q := by
  unfold rMx
  exact ⟨i, j, rfl, q⟩
theorem atI_ex (xs : List Int) {i : Int} (h0 : 0 ≤ i) (h1 : i < (xs.length : Nat)) : ∃ z, z ∈ xs ∧ atI (xs.map V.int) i = some (V.int z) := by
  obtain ⟨n, rfl⟩ : ∃ n : Nat, i = n := ⟨i.toNat, by omega⟩
  have hn : n < xs.length := by omega
  refine ⟨xs[n], List.getElem_mem hn, ?_⟩
  refine atI_nat ?_
  rw [List.getElem?_map, List.getElem?_eq_getElem hn]
  rfl
/-! ### x in xs, flat -/
@[irreducible] def rInS (K : PySem.W.Frag) (neg : Bool) : R2 := fun x y H Q => rIn K neg x y H Q
theorem op_inS {X : Cx} : OpR X (compareOp .In) (rInS X.K false) := fun pins s σ H x y v u Q I rx ry h => op_in_seq pins s σ H x y v u Q I rx ry (by unfold rInS at h; exact h)
theorem op_notInS {X : Cx} : OpR X (compareOp .NotIn) (rInS X.K true) := fun pins s σ H x y v u Q I rx ry h => op_notIn_seq pins s σ H x y v u Q I rx ry (by unfold rInS at h; exact h)
section
variable {K : PySem.W.Frag} {H : Hp} {p : Addr} {x : V} {xs : List V} {Q : VK}
theorem inT_go (h : SqT K H p xs) (fx : flatV x = true) (fs : xs.all flatV = true) (q : Q (.bl (inV x xs)) H) : rInS K false x (.ref p) H Q := by
  unfold rInS
  exact ⟨p, xs, rfl, .inr h, fx, fs, q⟩
theorem inL_go (h : SqL K H p xs) (fx : flatV x = true) (fs : xs.all flatV = true) (q : Q (.bl (inV x xs)) H) : rInS K false x (.ref p) H Q := by
  unfold rInS
  exact ⟨p, xs, rfl, .inl h, fx, fs, q⟩
theorem niT_go (h : SqT K H p xs) (fx : flatV x = true) (fs : xs.all flatV = true) (q : Q (.bl (!inV x xs)) H) : rInS K true x (.ref p) H Q := by
  unfold rInS
  exact ⟨p, xs, rfl, .inr h, fx, fs, q⟩
theorem niL_go (h : SqL K H p xs) (fx : flatV x = true) (fs : xs.all flatV = true) (q : Q (.bl (!inV x xs)) H) : rInS K true x (.ref p) H Q := by
  unfold rInS
  exact ⟨p, xs, rfl, .inl h, fx, fs, q⟩
end
/-! ### == of two pairs (text, tuple) -/
theorem eqD_nest {K : PySem.W.Frag} {H : Hp} {a b p q : Addr} {s : Str} {xs : List V} {Q : VK} (h1 : SqT K H a [.str s, .ref p]) (h2 : SqT K H b [.str s, .ref q]) (hp : SqT K H p xs) (hq : SqT K H q xs) (hs : okS s = true) (f : xs.all flatS = true) (k : Q (.bl true) H) : rEqD K (.ref a) (.ref b) H Q := by
  have e := layAll_pd f
  have sh : SeqAt.shaped (.tuple [.str s, .tuple (xs.map pd)]) = true := by
    unfold SeqAt.shaped
    simp only [PyData.canLay0, PyData.canLayAll0, PyData.depth, PyData.depthAll, e.1, e.2, okS_ok hs]
    decide
  refine ⟨_, _, .tup h1 (.cons (.str s) (.cons (.tup hp (dpAll_pd f)) .nil)), .tup h2 (.cons (.str s) (.cons (.tup hq (dpAll_pd f)) .nil)), sh, sh, ?_⟩
  rw [SeqAt.eqv_refl _ (SeqAt.canLay_of_shaped sh)]
  exact k
/-! ### xs[i] = v -/
@[irreducible] def rSetLi : V → V → V → Hp → (Hp → Prop) → Prop := fun o i v H Q => rSetL o i v H Q
theorem set_li {X : Cx} : PSet X rSetLi := fun pins s σ H o i v ov iv u Q I ro ri rv h => set_list pins s σ H o i v ov iv u Q I ro ri rv (by unfold rSetLi at h; exact h)
theorem setL_go {H : Hp} {p : Addr} {xs : List V} {k : Int} {j : Nat} {v : V} {Q : Hp → Prop} (h : H p = some (.lst xs)) (e : ixN xs.length k = some j) (q : Q (upd H p (.lst (xs.set j v)))) : rSetLi (.ref p) (.int k) v H Q := by
  unfold rSetLi
  exact ⟨p, xs, k, j, rfl, rfl, h, e, q⟩
/-! ### slices -/
section
variable {K : PySem.W.Frag} {H : Hp} {p : Addr} {xs : List V} {lo hi : Option Int} {Q : VK}
theorem slL_go (h : SqL K H p xs) (q : ∀ r, H r = none → Q (.ref r) (upd H r (.lst (cutV xs lo hi)))) : rSlL K (.ref p) lo hi H Q := ⟨p, xs, rfl, h, q⟩
end
/-! ### comprehensions over a list -/
theorem upd_upd {H : Hp} {a : Addr} {o o' : HO} : upd (upd H a o) a o' = upd H a o' := by
  funext b
  by_cases e : b = a
  · subst e
    rw [upd_same, upd_same]
  · rw [upd_ne e, upd_ne e, upd_ne e]
theorem hp_upd {H : Hp} {a p : Addr} {o o' : HO} (e : H p = none) (h : H a = some o) : upd H p o' a = some o := (upd_ne (ne_of_none h e)).trans h
section
variable {K : PySem.W.Frag} {a D : Addr} {g : TG} {tt : TT} {te : TE} {vs : List Nat} {σ : L2.St} {H1 : Hp} {Qd : Hp → Prop}
/-- [x for x in ns if p x] -/
theorem lc_fil {ns : List Int} (p : Int → Bool) (hD : H1 D = none) (hl : SqL K H1 a (ns.map V.int)) (hn : ns.length < sizeLine)
    (hs : ∀ z H (N : Hp → Prop) acc, H D = some (.lst acc) → acc.length < sizeLine → (p z = true → N (upd H D (.lst (acc ++ [.int z])))) → (p z = false → N H) →
      g (.int z) (wipe σ vs) H fun σ2 H2 => wipe σ2 vs = wipe σ vs ∧ tt σ2 H2 fun b H3 => if b = true then te σ2 H3 fun y H4 => ∃ acc, H4 D = some (.lst acc) ∧ acc.length < sizeLine ∧ N (upd H4 D (.lst (acc ++ [y]))) else N H3)
    (hd : Qd (upd H1 D (.lst ((ns.filter p).map V.int)))) :
    ∃ W : Nat → Nat → Hp → Prop, (∃ m, W 0 m (upd H1 D (.lst []))) ∧ ∀ i m H, W i m H →
      ((Itl K a).stop i H ∧ Qd H) ∨ ((Itl K a).go i H ∧ ∃ Nx : Hp → Prop, (∀ H', Nx H' → ∃ m', m' < m ∧ W (i + 1) m' H') ∧ ∀ x H', (Itl K a).yld i H x H' → g x (wipe σ vs) H' fun σ2 H2 => wipe σ2 vs = wipe σ vs ∧ tt σ2 H2 fun b H3 =>
        if b = true then te σ2 H3 fun y H4 => ∃ acc, H4 D = some (.lst acc) ∧ acc.length < sizeLine ∧ Nx (upd H4 D (.lst (acc ++ [y]))) else Nx H3) := by
  refine lc_list (xs := ns.map V.int) (fun i H => H = upd H1 D (.lst (((ns.take i).filter p).map V.int))) rfl (fun i H _ e => e ▸ lst_upd hD hl) ?_ ?_
  · rintro i x H hx rfl
    rw [List.getElem?_map] at hx
    cases hz : ns[i]? with
    | none => rw [hz] at hx; cases hx
    | some z =>
      rw [hz] at hx
      cases hx
      have ht : ns.take (i + 1) = ns.take i ++ [z] := by rw [List.take_add_one, hz]; rfl
      refine hs z _ _ _ upd_same ?_ (fun c => ?_) (fun c => ?_)
      · rw [List.length_map]
        refine Nat.lt_of_le_of_lt (List.length_filter_le _ _) (Nat.lt_of_le_of_lt ?_ hn)
        rw [List.length_take]
        exact Nat.min_le_right _ _
      · rw [ht, List.filter_append, List.map_append, upd_upd]
        simp [c]
      · rw [ht, List.filter_append]
        simp [c]
  · rintro H rfl
    rw [List.length_map, List.take_length]
    exact hd
/-- [f x for x in xs] -/
theorem lc_mp {xs : List V} (f : V → V) (hD : H1 D = none) (hl : SqL K H1 a xs) (hn : xs.length < sizeLine)
    (hs : ∀ (i : Nat) (x : V) (H : Hp) (N : Hp → Prop) (acc : List V), xs[i]? = some x → Same H1 H → H D = some (.lst acc) → acc.length < sizeLine → (∀ H', Same H1 H' → H' D = some (.lst (acc ++ [f x])) → N H') →
      g x (wipe σ vs) H fun σ2 H2 => wipe σ2 vs = wipe σ vs ∧ tt σ2 H2 fun b H3 => if b = true then te σ2 H3 fun y H4 => ∃ acc, H4 D = some (.lst acc) ∧ acc.length < sizeLine ∧ N (upd H4 D (.lst (acc ++ [y]))) else N H3)
    (hd : ∀ H', Same H1 H' → H' D = some (.lst (xs.map f)) → Qd H') :
    ∃ W : Nat → Nat → Hp → Prop, (∃ m, W 0 m (upd H1 D (.lst []))) ∧ ∀ i m H, W i m H →
      ((Itl K a).stop i H ∧ Qd H) ∨ ((Itl K a).go i H ∧ ∃ Nx : Hp → Prop, (∀ H', Nx H' → ∃ m', m' < m ∧ W (i + 1) m' H') ∧ ∀ x H', (Itl K a).yld i H x H' → g x (wipe σ vs) H' fun σ2 H2 => wipe σ2 vs = wipe σ vs ∧ tt σ2 H2 fun b H3 =>
        if b = true then te σ2 H3 fun y H4 => ∃ acc, H4 D = some (.lst acc) ∧ acc.length < sizeLine ∧ Nx (upd H4 D (.lst (acc ++ [y]))) else Nx H3) := by
  refine lc_list (xs := xs) (fun i H => Same H1 H ∧ H D = some (.lst ((xs.take i).map f))) ⟨same_new (Same.refl _) hD, upd_same⟩ (fun i H _ e => same_lst e.1 hl) ?_ ?_
  · rintro i x H hx ⟨s, e⟩
    have ht : xs.take (i + 1) = xs.take i ++ [x] := by rw [List.take_add_one, hx]; rfl
    refine hs i x _ _ _ hx s e ?_ fun H' s' e' => ?_
    · rw [List.length_map, List.length_take]
      exact Nat.lt_of_le_of_lt (Nat.min_le_right _ _) hn
    · refine ⟨s', ?_⟩
      rw [ht, List.map_append]
      exact e'
  · rintro H ⟨s, e⟩
    rw [List.take_length] at e
    exact hd H s e
end
/-! ### comprehensions over a range -/
section
variable {D : Addr} {g : TG} {tt : TT} {te : TE} {vs : List Nat} {σ : L2.St} {H1 : Hp} {Qd : Hp → Prop}
theorem lc_rgm {n : Nat} (f : Nat → V) (hD : H1 D = none) (hn : n < sizeLine)
    (hs : ∀ (i : Nat) (H : Hp) (N : Hp → Prop) (acc : List V), i < n → Same H1 H → H D = some (.lst acc) → acc.length < sizeLine → (∀ H', Same H1 H' → H' D = some (.lst (acc ++ [f i])) → N H') →
      g (.int (0 + (i : Nat))) (wipe σ vs) H fun σ2 H2 => wipe σ2 vs = wipe σ vs ∧ tt σ2 H2 fun b H3 => if b = true then te σ2 H3 fun y H4 => ∃ acc, H4 D = some (.lst acc) ∧ acc.length < sizeLine ∧ N (upd H4 D (.lst (acc ++ [y]))) else N H3)
    (hd : ∀ H', Same H1 H' → H' D = some (.lst ((List.range n).map f)) → Qd H') :
    ∃ W : Nat → Nat → Hp → Prop, (∃ m, W 0 m (upd H1 D (.lst []))) ∧ ∀ i m H, W i m H →
      ((Itr 0 n).stop i H ∧ Qd H) ∨ ((Itr 0 n).go i H ∧ ∃ Nx : Hp → Prop, (∀ H', Nx H' → ∃ m', m' < m ∧ W (i + 1) m' H') ∧ ∀ x H', (Itr 0 n).yld i H x H' → g x (wipe σ vs) H' fun σ2 H2 => wipe σ2 vs = wipe σ vs ∧ tt σ2 H2 fun b H3 =>
        if b = true then te σ2 H3 fun y H4 => ∃ acc, H4 D = some (.lst acc) ∧ acc.length < sizeLine ∧ Nx (upd H4 D (.lst (acc ++ [y]))) else Nx H3) := by
  refine lc_range (fun i H => Same H1 H ∧ H D = some (.lst ((List.range i).map f))) ⟨same_new (Same.refl _) hD, upd_same⟩ ?_ fun H e => hd H e.1 e.2
  rintro i H hi ⟨s, e⟩
  refine hs i H _ _ hi s e ?_ fun H' s' e' => ⟨s', ?_⟩
  · rw [List.length_map, List.length_range]
    exact Nat.lt_trans hi hn
  · rw [List.range_succ, List.map_append]
    exact e'
end
theorem range_rep {n : Nat} {v : Int} : (List.range n).map (fun _ => V.int v) = (List.replicate n v).map V.int := by
  rw [List.map_const', List.length_range, List.map_replicate]
/-! ### max of a list -/
@[irreducible] def rMxl (K : PySem.W.Frag) : List V → Hp → VK → Prop := fun vs H Q => rMax K vs H Q
theorem call_mxl {X : Cx} (hc : X.calm = true) : CallR X (.builtin "max") (rMxl X.K) := fun pins s σ H xs us Q I r h => cr_max hc pins s σ H xs us Q I r (by unfold rMxl at h; exact h)
theorem mxl_go {K : PySem.W.Frag} {H : Hp} {p : Addr} {ns : List Int} {Q : VK} (h : SqL K H p (ns.map V.int)) (h0 : 0 < ns.length) (q : ∀ m, m ∈ ns → (∀ y, y ∈ ns → y ≤ m) → Q (.int m) H) : rMxl K [.ref p] H Q := by
  unfold rMxl
  exact ⟨p, ns, rfl, h, h0, q⟩
/-! ### x is True -/
@[irreducible] def rIsB : R2 := fun x y H Q => ∃ b c, x = .bl b ∧ y = .bl c ∧ Q (.bl (b == c)) H
@[irreducible] def rNotB : R2 := fun x y H Q => ∃ b c, x = .bl b ∧ y = .bl c ∧ Q (.bl (!(b == c))) H
section
variable {X : Cx} {b c : Bool} {H : Hp} {Q : VK}
theorem op_isB : OpR X (compareOp .Is) rIsB := fun pins s σ H x y v u Q I rx ry h => by
  unfold rIsB at h
  obtain ⟨b, c, rfl, rfl, q⟩ := h
  cases (show v = Value.bool b from rx)
  cases (show u = Value.bool c from ry)
  refine PySem.wpAny_is_plain rfl ⟨.bl (b == c), H, I, ?_, q⟩
  cases b <;> cases c <;> rfl
theorem op_notB : OpR X (compareOp .IsNot) rNotB := fun pins s σ H x y v u Q I rx ry h => by
  unfold rNotB at h
  obtain ⟨b, c, rfl, rfl, q⟩ := h
  cases (show v = Value.bool b from rx)
  cases (show u = Value.bool c from ry)
  refine PySem.wpAny_isNot_plain rfl ⟨.bl (!(b == c)), H, I, ?_, q⟩
  cases b <;> cases c <;> rfl
theorem isB_go (q : Q (.bl (b == c)) H) : rIsB (.bl b) (.bl c) H Q := by
  unfold rIsB
  exact ⟨b, c, rfl, rfl, q⟩
theorem notB_go (q : Q (.bl (!(b == c))) H) : rNotB (.bl b) (.bl c) H Q := by
  unfold rNotB
  exact ⟨b, c, rfl, rfl, q⟩
end
theorem tC_go {v : V} {σ : L2.St} {H : Hp} {Q : VK} (q : Q v H) : tC v σ H Q := q
theorem tNoPart_go {σ : L2.St} {H : Hp} {Q : Option Int → Hp → Prop} (q : Q none H) : tNoPart σ H Q := q
/-! ### list(xs) -/
@[irreducible] def rLo (K : PySem.W.Frag) : List V → Hp → VK → Prop := fun vs H Q => ∃ p xs, vs = [.ref p] ∧ (SqL K H p xs ∨ SqT K H p xs) ∧ ∀ l, H l = none → Q (.ref l) (upd H l (.lst xs))
theorem call_lo {X : Cx} : CallR X (.type "list") (rLo X.K) := fun pins s σ H xs us Q I r h => call_list_of pins s σ H xs us Q I r (by unfold rLo at h; exact h)
section
variable {K : PySem.W.Frag} {H : Hp} {p : Addr} {xs : List V} {Q : VK}
theorem lo_l (h : SqL K H p xs) (q : ∀ l, H l = none → Q (.ref l) (upd H l (.lst xs))) : rLo K [.ref p] H Q := by
  unfold rLo
  exact ⟨p, xs, rfl, .inl h, q⟩
theorem lo_t (h : SqT K H p xs) (q : ∀ l, H l = none → Q (.ref l) (upd H l (.lst xs))) : rLo K [.ref p] H Q := by
  unfold rLo
  exact ⟨p, xs, rfl, .inr h, q⟩
end
theorem flatI {fl : List Int} : (fl.map V.int).all flatS = true := by
  rw [List.all_map]
  exact List.all_eq_true.mpr fun _ _ => rfl
/-! ### xs + ys -/
@[irreducible] def rCt : R2 := fun x y H Q => rCat x y H Q
theorem op_ct {X : Cx} : OpR X (binaryOp .Add) rCt := fun pins s σ H x y v u Q I rx ry h => op_cat pins s σ H x y v u Q I rx ry (by unfold rCt at h; exact h)
theorem ct_go {H : Hp} {a b : Addr} {xs ys : List V} {Q : VK} (h1 : H a = some (.lst xs)) (h2 : H b = some (.lst ys)) (hl : xs.length + ys.length ≤ sizeLine) (q : ∀ r, H r = none → Q (.ref r) (upd H r (.lst (xs ++ ys)))) : rCt (.ref a) (.ref b) H Q := by
  unfold rCt
  exact ⟨a, b, xs, ys, rfl, rfl, h1, h2, hl, q⟩
/-! ### f() -/
section
variable {X : Cx} {CX : CXT} {k : Nat} {f : Addr} {fd : FuncData} {sp : Sp} {E : L2.St → XK} {x : Str} {p pos : Pos}
def tCall0 (sp : Sp) (E : L2.St → XK) : TE := fun σ H Q => sp [] H Q (E σ)
theorem pe_callS0 (F : FnOk X.prog X.w X.K X.mg X.base CX k f fd [] sp) (hr : Room k X.A) (hg : Gl X x) (hm : X.mg x = some (.ref f)) (hk : PySem.W.keepIn X.K (.ref f) = true) (hb : Binds X.K fd [] []) (hx : ∀ σ, PassesAt CX X σ (E σ))
    (hdb : (x == ("__debug__" : Str)) = false := by decide) : PE X (.Call (.Name x p) [] [] pos) (tCall0 sp E) := by
  refine ⟨fun pins s σ H Q I h => ?_⟩
  refine wpAny_Call_Name_kw (ld_glob I hg hm ?_ hdb)
  exact PySem.W.callWith_K0 I.kIn hk (run_fnS (us := []) F hr hb (hx σ) I .nil h)
end
end LB

set_option Elab.async false
set_option linter.all false
set_option maxRecDepth 100000
set_option maxHeartbeats 4000000
/-! an own exception whose __init__ begins with super().__init__(..), over ValueError through own classes -/
namespace LB
open PySem PySem.Spec PyProof.Rows L2 NdefX
/-- what the written part says of such a class: at C, its __init__ at fI, that one's code at cda, the cell of __class__ at cc -/
structure SupC (P : Program) (K : PySem.W.Frag) (mg : Str → Option Value) (C fI cc cda : Addr) : Prop where
  ox : OexC K C
  iC : PySem.W.findIn K (.ref C) "__init__" = some (some (.ref fI))
  tI : PySem.W.typeIn K (.ref fI) = some (.type "function")
  cell : ∃ cl cld csl, K.lookup cc = some ⟨cl, cld, .cell (some (.ref C)), csl⟩
  code : ∃ ccl cdd vs ccs file tf, K.lookup cda = some ⟨ccl, cdd, .fields vs, ccs⟩ ∧ vs[2]? = some (.str file tf) ∧ ((P.main.file : Str) == file) = true
  top : (P.main.scope.names.lookup ("super" : Str)).isSome = false
  zs : mg "super" = none
  self : PySem.W.mroIn K C (.ref C) = some true
  third : PySem.W.nsIn K cStatics "thirdparty.any" = some none
  sup : PySem.W.ks_superIn K C C "__init__" = some (some (.builtin "ValueError.__init__"))
  ve : PySem.W.subIn K (.ref C) (.type "ValueError") = some true
section
variable {CX : CXT} {P : Program} {w : World} {K : PySem.W.Frag} {mg : Str → Option Value} {base : Heap} {C fI cc cda : Addr}
/-- the wrapper's call: the exception's args are laid anew -/
theorem sup_call {X : Cx} {pins : List (Addr × Obj)} {σ : L2.St} {H : Hp} {s : Shared} {a u : Addr} {us : List Value} {A : Around} {E : Value → Shared → Prop} {Q : Value → Shared → Prop} (T : OexC X.K C) (I : Inv X pins σ H s) (e : H a = some (exo a C none))
    (hu : s.heap.get? u = some (PySem.W.kxs_mw "ValueError.__init__" a)) (hl : us.length ≤ sizeLine) (h : ∀ s', Inv X pins σ H s' → Q .none s') : wpAny (model X.prog X.w) A (call (.ref u) us) Q E s := by
  obtain ⟨nm, q, N, bs, bm, sn, sub, ab, col, dd, k0, k1, k2, k3, k5, hC, hbm⟩ := T.cls
  obtain ⟨t1, ho⟩ := exo_at I.hok e
  have hCh := I.kIn _ _ hC
  obtain ⟨hp, g, d, t, os⟩ := s
  refine wpAny_call (codeAny_of_tree ?_)
  show wpAny _ A.in1 (callAny (.ref u) ⟨us, []⟩) _ _ _
  simp only [callAny]
  refine wpAny_bind (wpAny_load hu ?_)
  simp only [PySem.W.kxs_mw, show (Value.type "method-wrapper" == Value.type "method" || Value.type "method-wrapper" == Value.type "builtin_function_or_method" || Value.type "method-wrapper" == Value.type "method-wrapper") = true by decide, if_true]
  refine PySem.W.KFB.if_so (by decide) ?_
  refine wpAny_bind (PySem.W.check_bound_init F.excBase_ValueError.toExcCallFacts hCh ho rfl ?_)
  refine wpAny_bind (wpAny_pure (wpAny_pure ?_))
  refine ⟨plainId_quiet F.excBase_ValueError.init.plain _, codeAny_builtin F.excBase_ValueError.initEntry ?_⟩
  refine PySem.W.exc_init_tree (cls := .ref C) (t0 := t1) (dv := none) (c2 := .none) (c3 := .none) (b4 := .bool false) ho hl fun h' k hx _ => ?_
  have J := I.write (t' := t) (x := a) (e := a) (o := exo a C none) (by rw [e]; exact True.intro) (.inl rfl) k ⟨_, hx⟩ (exo_ok hx)
  have eu : upd H a (exo a C none) = H := by
    funext b
    by_cases hb : b = a
    · rw [hb, upd_same, e]
    · rw [upd_ne hb]
  rw [eu] at J
  exact h _ J
end
/-- the first statement -/
abbrev supS (p1 p2 p3 p4 p5 : Pos) (e : Expr) (es : List Expr) : Stmt := .Expr (.Call (.Attribute (.Call (.Name "super" p1) [] [] p2) "__init__" p3) (e :: es) [] p4) p5
theorem looks_mro {M : Model} {K : PySem.W.Frag} {h : Heap} {C : Addr} {cd : ClassData} (X : K.In h) (hc : PySem.W.clsIn K C = some cd) : PySem.W.Looks M h (mroOf (.ref C)) cd.mro := fun A Q E s k q => wpAny_bind ((PySem.W.looks_clsIn X hc) A _ E s k (wpAny_pure q))
section
variable {CX : CXT} {P : Program} {w : World} {K : PySem.W.Frag} {mg : Str → Option Value} {base : Heap} {C fI cc cda : Addr} {N ps : List Str} {k : Nat} {sp : Sp} {name qual : Str} {params : Arguments} {rest : List Stmt} {scope : Scope} {p1 p2 p3 p4 p5 : Pos} {e : Expr} {es : List Expr}
theorem sup_ok {F : NF} {oc doc pm ct : Value} {od : Option Addr} {osl : Array (Option Value)} (T : SupC P K mg C fI cc cda) (hB : F.body = supS p1 p2 p3 p4 p5 e es :: rest) (hcl : F.cl = [(("__class__" : Str), cc)]) (hca : F.c = cda)
    (lk : K.lookup fI = some ⟨oc, od, .func (F.fd doc pm ct), osl⟩) (hcd : PySem.W.codeIn K (.ref cda) F.qual = true)
    (S : NScope N (("self" : Str) :: ps) ["__class__"] F.scope) (hps : (F.params.posonlyargs ++ F.params.args).head?.map (·.arg) = some ("self" : Str)) (hks : F.scope.names.lookup ("super" : Str) = some .globalImplicit)
    (hb : ∀ us : List Value, us.length = (("self" : Str) :: ps).length → bindArgs (F.fd doc pm ct) ⟨us, []⟩ = pure ((("self" : Str) :: ps).zip us))
    (he : ∀ L, starEach (e :: es) (envF F fI L) = (false, eval e (envF F fI L)) :: starEach es (envF F fI L))
    (hpl : ∀ L, (backTo p4 (starEach es (envF F fI L))).any (·.1) = false)
    (hsw : ∀ L, swapsWith (.Call (.Attribute (.Call (.Name "super" p1) [] [] p2) "__init__" p3) (e :: es) [] p4) none p5.line (envF F fI L) = pure false)
    (hev : ∀ L, ∃ pl, eval (.Call (.Attribute (.Call (.Name "super" p1) [] [] p2) "__init__" p3) (e :: es) [] p4) (envF F fI L) = (do
      let ov ← attributeBase (.Call (.Name "super" p1) [] [] p2) "__init__" (envF F fI L) (eval (.Call (.Name "super" p1) [] [] p2) (envF F fI L))
      standAt p3.atName
      let (f, first) ← holding [ov] (getMethod ov "__init__" pl)
      callWith p4 f first (backTo p4 (starEach (e :: es) (envF F fI L))) []))
    (len : ∀ vs H Q E, sp vs H Q E → vs.length = (("self" : Str) :: ps).length)
    (hbody : ∀ (A : Around) (outer : List Env) (s : Shared) (H : Hp) (vs : List V) (Q : VK) (E : XK), sp vs H Q E →
      ∃ (a : Addr) (xs : List V) (ta : TA) (t : TS), vs = .ref a :: xs ∧ H a = some (exo a C none) ∧ PA (ncx CX P w K mg base N F fI A outer s H E) (e :: es) ta ∧
        PSs (ncx CX P w K mg base N F fI A outer s H E) rest t ∧
        ta (startF N vs [some (.ref C)]) H fun us H1 => us.length ≤ 1000 ∧ H1 a = some (exo a C none) ∧ t { nx := fun _ H' => Q .non H', rt := Q } (startF N vs [some (.ref C)]) H1) :
    FnOk P w K mg base CX (k + 1) fI (F.fd doc pm ct) (("self" : Str) :: ps) sp := by
  obtain ⟨fn_, fq, fp, fb, fs, fcl, fc⟩ := F
  dsimp only at hB hcl hca hcd S hps hks
  subst hB hcl hca
  refine ⟨len, fun A outer s H args us vs Q E hr e0 hbi r hsp => ?_⟩
  have hl := len _ _ _ _ hsp
  have lim : s.heap.NoLimit := e0.mod.nolimit.keeps fun b o e => (e0.bs b o e).1
  have KX : K.In s.heap := e0.mod.kin.keeps fun b o e => (e0.bs b o e).1
  obtain ⟨a, xs, ta, t, rfl, ea, ha, hrest, hq⟩ := hbody A outer s H vs Q E hsp
  obtain ⟨cl, cld, csl, hcell⟩ := T.cell
  obtain ⟨ccl, cdd, cvs, ccs, file, tf, hcode, hvs, hfile⟩ := T.code
  obtain ⟨nm, q0, N0, bs, bm, sn, sub, ab, col, dd, k0, k1, k2, k3, k5, hC, hbm⟩ := T.ox.cls
  obtain ⟨u0, ur, rfl, ru0, rur⟩ : ∃ u0 ur, us = u0 :: ur ∧ RelV (.ref a) u0 ∧ Vals xs ur := by
    cases r with
    | cons h1 h2 => exact ⟨_, _, rfl, h1, h2⟩
  obtain rfl : u0 = Value.ref a := ru0
  have hul : (Value.ref a :: ur).length = (("self" : Str) :: ps).length := r.length.symm.trans hl
  refine ks_codeAny_call_defAt hr.depth (KX _ _ lk) rfl lim (PySem.W.codeRec_of KX hcd) rfl hbi S.nocell (fun ⟨n, _⟩ hy => S.par n (List.of_mem_zip hy).1) (fun h₁ hns kp => ?_) S.co S.gen S.kind
  have CA : CellsAt [(("__class__" : Str), cc)] ["__class__"] [some (.ref C)] s.heap H := by
    have hk : H cc = none := by
      have := (e0.bs cc _ (e0.mod.kin _ _ hcell)).2
      exact this
    have f : ∀ (z : Str) (c' : Addr), List.lookup z [(("__class__" : Str), cc)] = some c' → z = "__class__" ∧ c' = cc := fun z c' h => by
      by_cases q : z = ("__class__" : Str)
      · subst q
        have : some cc = some c' := by simpa [List.lookup] using h
        exact ⟨rfl, (Option.some.inj this).symm⟩
      · have q2 : (z == ("__class__" : Str)) = false := by simpa using q
        simp [List.lookup, q2] at h
    refine ⟨rfl, fun y c hy => ?_, fun x y c hx hy => (f x c hx).1.trans (f y c hy).1.symm, fun i y hi => ?_⟩
    · obtain ⟨_, rfl⟩ := f y c hy
      exact ⟨hk, _, ⟨_, KX _ _ hcell, rfl⟩⟩
    · cases i with
      | zero =>
        have ey : y = "__class__" := (Option.some.inj hi).symm
        subst ey
        exact ⟨cc, by simp [List.lookup], fun v hv => ⟨.ref C, by cases hv; rfl, ⟨_, KX _ _ hcell, rfl⟩⟩⟩
      | succ n => simp at hi
  have I : Inv (ncx CX P w K mg base N (⟨fn_, fq, fp, supS p1 p2 p3 p4 p5 e es :: rest, fs, [(("__class__" : Str), cc)], fc⟩ : NF) fI A outer s H E) [] (startF N (.ref a :: xs) [some (.ref C)]) H { s with heap := h₁, toks := s.toks + ((("self" : Str) :: ps).zip (Value.ref a :: ur)).length } := inv_startN S hr.hd e0 hl r CA hns kp
  refine ks_wpAt_execs_cons (ks_wpAt_Expr_any ?_ (I.quiet) (hsw _))
  obtain ⟨pl, hev⟩ := hev s.heap.objs.size
  refine ks_wpAt_MethodCall ?_ hev
  obtain ⟨ar, hp, har⟩ : ∃ ar, (fp.posonlyargs ++ fp.args).head? = some ar ∧ ar.arg = "self" := by
    cases z : (fp.posonlyargs ++ fp.args).head? with
    | none => rw [z] at hps; cases hps
    | some ar => rw [z] at hps; exact ⟨ar, rfl, Option.some.inj hps⟩
  have hnd : (("self" : Str) :: ps).Nodup := by
    have q := S.nd.sublist (List.take_sublist ((("self" : Str) :: ps).length + [("__class__" : Str)].length) N)
    rw [S.pre] at q
    exact (List.nodup_append.mp q).1
  have hself : ((("self" : Str) :: ps).zip (Value.ref a :: ur)).reverse.lookup ("self" : Str) = some (Value.ref a) := zip_look (i := 0) hnd rfl rfl
  have hcd' : PySem.W.clsIn K C = some { name := nm, bases := bs, mro := .ref C :: bm, ns := N0, qualname := q0, hasDict := true, slotNames := sn, subclasses := sub, abstract := ab, collection := col, hasDel := false } := by unfold PySem.W.clsIn; rw [hC] <;> rfl
  obtain ⟨t1, ho⟩ := exo_at I.hok ea
  have X1 := I.kIn
  refine ks_wpAt_super_base (env := envF (⟨fn_, fq, fp, supS p1 p2 p3 p4 p5 e es :: rest, fs, [(("__class__" : Str), cc)], fc⟩ : NF) fI s.heap.objs.size) hks (S.frk _ List.mem_cons_self) (by decide) rfl (X1 _ _ lk) rfl hp rfl (X1 _ _ hcode) rfl hvs hfile T.top ?_
  obtain ⟨mb, hb1, hb2⟩ := I.mod.blt
  refine PySem.W.ks_loadName_global S.kind hks (PySem.Calls.loadGlobal_builtin (env := envF (⟨fn_, fq, fp, supS p1 p2 p3 p4 p5 e es :: rest, fs, [(("__class__" : Str), cc)], fc⟩ : NF) fI s.heap.objs.size) (I.mod.glob.keeps I.bk) T.zs (hb1.keeps I.bk) ((hb2 _ (by decide +kernel)).trans (show bootBuiltins "super" = some (.type "super") by decide +kernel)) ⟨rfl, ?_⟩)
  refine wpAny_loadName_free S.kind (S.frk _ List.mem_cons_self) rfl ⟨_, X1 _ _ hcell, rfl⟩ ?_
  rw [har]
  refine wpAny_loadName_local S.kind (S.par _ List.mem_cons_self) hns hself ?_
  refine ks_wpAny_isType_cls (X1 _ _ hC) rfl ⟨rfl, ?_⟩
  refine ks_wpAny_call_super (X1 _ _ hC) rfl ho rfl (fun c z => nomatch z) (PySem.W.looks_mroIn X1 T.self) (fun h2 e2 k2 => ?_)
  have I2 := I.kept (t' := s.toks + ((("self" : Str) :: ps).zip (Value.ref a :: ur)).length) k2
  have X2 := I2.kIn
  -- the method
  have hsup := T.sup
  unfold PySem.W.ks_superIn at hsup
  rw [hcd', Option.bind_some] at hsup
  have haC : a ≠ C := fun z => by
    have q1 := X1 _ _ hC
    rw [← z] at q1
    have q2 : some _ = some _ := ho.symm.trans q1
    cases q2
  refine PySem.W.kxs_getMethod PySem.W.kxs_ValueError e2 (PySem.W.looks_opaque X2 T.third) (looks_mro X2 hcd') rfl X2 hsup
    (PySem.W.Looks.andThen (PySem.W.InstAt.type (od := none) ⟨k2 _ _ ho, rfl, rfl, trivial⟩) (PySem.W.looks_subIn X2 T.ve)) haC (by decide) ?_
  have k3' : ∀ b o, h2.get? b = some o → (h2.push (PySem.W.kxs_mw "ValueError.__init__" a)).get? b = some o := fun b o z => Heap.get?_push_of_some _ z
  have hmw : (h2.push (PySem.W.kxs_mw "ValueError.__init__" a)).get? h2.objs.size = some (PySem.W.kxs_mw "ValueError.__init__" a) := Heap.get?_push_at rfl rfl
  have I3 := I2.kept (t' := s.toks + ((("self" : Str) :: ps).zip (Value.ref a :: ur)).length + 1) k3'
  have hfr : H h2.objs.size = none := I2.hok.fresh (Nat.le_refl _)
  have hnL : h2.objs.size ≠ s.heap.objs.size := Nat.ne_of_gt I2.lt
  have hnf : h2.objs.size ∉ (ncx CX P w K mg base N (⟨fn_, fq, fp, supS p1 p2 p3 p4 p5 e es :: rest, fs, [(("__class__" : Str), cc)], fc⟩ : NF) fI A outer s H E).fs := I2.nofs (Nat.le_refl _)
  have I4 : Inv (ncx CX P w K mg base N (⟨fn_, fq, fp, supS p1 p2 p3 p4 p5 e es :: rest, fs, [(("__class__" : Str), cc)], fc⟩ : NF) fI A outer s H E) [(h2.objs.size, PySem.W.kxs_mw "ValueError.__init__" a)] (startF N (.ref a :: xs) [some (.ref C)]) H { s with heap := h2.push (PySem.W.kxs_mw "ValueError.__init__" a), toks := s.toks + ((("self" : Str) :: ps).zip (Value.ref a :: ur)).length + 1 } :=
    I3.pins_of fun p hp => by
      have hp' : p ∈ [(h2.objs.size, PySem.W.kxs_mw "ValueError.__init__" a)] := hp
      obtain rfl := List.mem_singleton.mp hp'
      exact ⟨hmw, hfr, hnL, hnf, fun v z => nomatch z⟩
  refine PySem.W.kxs_callWith (i := "ValueError.__init__") (x := a) ?_ ?_
  · refine Eq.trans (congrArg (fun z => (backTo p4 z).any (·.1)) (he s.heap.objs.size)) ?_
    show (false || (backTo p4 (starEach es (envF (⟨fn_, fq, fp, supS p1 p2 p3 p4 p5 e es :: rest, fs, [(("__class__" : Str), cc)], fc⟩ : NF) fI s.heap.objs.size))).any (·.1)) = false
    rw [hpl]; rfl
  have hrun : wpAny (model P w) (A.deeper (envF (⟨fn_, fq, fp, supS p1 p2 p3 p4 p5 e es :: rest, fs, [(("__class__" : Str), cc)], fc⟩ : NF) fI s.heap.objs.size)) (spliced (backTo p4 (starEach (e :: es) (envF (⟨fn_, fq, fp, supS p1 p2 p3 p4 p5 e es :: rest, fs, [(("__class__" : Str), cc)], fc⟩ : NF) fI s.heap.objs.size)))) _ _ _ := ha.run p4 _ _ _ H _ I4 hq
  rw [he] at hrun
  show wpAny _ _ (evalArgs _ true (backTo p4 (starEach (e :: es) (envF (⟨fn_, fq, fp, supS p1 p2 p3 p4 p5 e es :: rest, fs, [(("__class__" : Str), cc)], fc⟩ : NF) fI s.heap.objs.size))) []) _ _ _
  rw [he]
  refine PySem.Calls.evalArgs_plain (thn hrun fun us' s5 hh => ?_)
  obtain ⟨vs5, H5, I5, r5, l5, ea5, q5⟩ := hh
  have hp5 := I5.pin (h2.objs.size, PySem.W.kxs_mw "ValueError.__init__" a) (List.mem_append_right _ List.mem_cons_self)
  refine ⟨hp5.1, ?_⟩
  refine sup_call T.ox I5 ea5 hp5.1 (by show us'.length ≤ sizeLine; rw [← r5.length, sizeLine_eq]; omega) fun s6 I6 => ?_
  refine wpAt_of_wpAny (wpAny_mono (hrest.run _ s6 _ H5 _ I6 q5) (fun fl s' hs => ?_) fun e s' hs => hs)
  have fin : ∀ {σ' : L2.St} {H' : Hp} {v : V} {u : Value}, Inv (ncx CX P w K mg base N (⟨fn_, fq, fp, supS p1 p2 p3 p4 p5 e es :: rest, fs, [(("__class__" : Str), cc)], fc⟩ : NF) fI A outer s H E) [(h2.objs.size, PySem.W.kxs_mw "ValueError.__init__" a)] σ' H' s' → RelV v u → Q v H' → CE outer P w H s Q u s' :=
    fun {σ' H' v u} J rv q => ⟨v, H', J.os, J.bare, J.base, J.hok, rv, q⟩
  cases fl with
  | ret u =>
    obtain ⟨v, σ', H', J, rv, q⟩ := hs
    exact fin J rv q
  | next =>
    obtain ⟨σ', H', J, q⟩ := hs
    exact fin (v := V.non) (u := Value.none) J rfl q
  | brk =>
    obtain ⟨_, _, _, q⟩ := hs
    exact False.elim q
  | cont =>
    obtain ⟨_, _, _, q⟩ := hs
    exact False.elim q
end
end LB
namespace LB
open PySem PySem.Spec PyProof.Rows L2 NdefX
/-! ### the promise of such an __init__, and what C(..) leaves -/
/-- its fields are told by the arguments -/
def sp_exc (C : Addr) (cond : List V → Prop) (fs : List V → List (Str × V)) (n : Nat) : Sp := fun vs H Q _ => ∃ (a : Addr) (xs : List V), vs = .ref a :: xs ∧ xs.length = n ∧ H a = some (exo a C none) ∧ cond xs ∧
  ∀ (d : Addr) (H' : Hp), H d = none → d ≠ a → H' a = some (exo a C (some d)) → H' d = some (exd d (fs xs)) → (∀ b, b ≠ a → b ≠ d → H' b = H b) → Q .non H'
def tExc (C : Addr) (cond : List V → Prop) (fs : List V → List (Str × V)) (n : Nat) (ta : TA) : L2.St → Hp → XK → Prop := fun σ H Q => ta σ H fun vs H1 => vs.length = n ∧ cond vs ∧ ∀ d, H1 d = none → Q (.ref C) (some d) (upd H1 d (.xd (fs vs)))
structure ExcOk (P : Program) (w : World) (K : PySem.W.Frag) (mg : Str → Option Value) (base : Heap) (C : Addr) (cond : List V → Prop) (fs : List V → List (Str × V)) (n : Nat) : Prop where
  ox : OexC K C
  iC : ∃ fI, PySem.W.findIn K (.ref C) "__init__" = some (some (.ref fI)) ∧ PySem.W.typeIn K (.ref fI) = some (.type "function") ∧ ∃ fd ps, FnOk P w K mg base (L2.CX P w) 1 fI fd ps (sp_exc C cond fs n) ∧ Binds K fd ps []
section
variable {X : Cx} {C : Addr} {cond : List V → Prop} {fs : List V → List (Str × V)} {n : Nat} {x : Str} {p pos pos2 : Pos} {e : Expr} {es : List Expr} {ta : TA} {W : WX}
theorem pmk_exc (T : ExcOk X.prog X.w X.K X.mg X.base C cond fs n) (hn : n ≤ 1000) (hr : Room 2 X.A) (hg : Gl X x) (hm : X.mg x = some (.ref C)) (ha : PA X (e :: es) ta)
    (hdb : (x == ("__debug__" : Str)) = false := by decide) (he : starEach (e :: es) X.env = (false, eval e X.env) :: starEach es X.env := by rfl) (hpl : (backTo pos (starEach es X.env)).any (·.1) = false := by rfl) :
    PMk X (.Call (.Name x p) (e :: es) [] pos) (tExc C cond fs n ta) := by
  obtain ⟨fI, iC, tI, fd, ps, G, b⟩ := T.iC
  have ha2 : PA X (e :: es) (fun σ H R => ∃ R0 : List V → Hp → Prop, ta σ H R0 ∧ ∀ vs H1, R0 vs H1 → R vs H1) := ⟨fun pos pins s σ H R I h => by
    obtain ⟨R0, h0, h1⟩ := h
    refine thn (ha.run pos pins s σ H R0 I h0) fun us s' q => ?_
    obtain ⟨vs, H1, I1, r1, q1⟩ := q
    exact ⟨vs, H1, I1, r1, h1 vs H1 q1⟩⟩
  have key := pmk_oex (CX := L2.CX X.prog X.w) (ds := []) (dvs := []) (pos := pos) (p := p) T.ox iC tI G hr b .nil passX hg hm ha2 hdb he hpl
  intro pins s σ H Q I h
  refine key pins s σ H Q I ⟨_, h, fun vs H1 q => ?_⟩
  obtain ⟨hl, hc, q⟩ := q
  refine ⟨by omega, fun a ha => ?_⟩
  rw [List.append_nil]
  refine ⟨a, vs, rfl, hl, upd_same, hc, fun d H' hd hda e1 e2 e3 => ⟨rfl, d, fs vs, e1, e2, by rw [upd_ne hda] at hd; exact hd, ?_⟩⟩
  have hd1 : H1 d = none := by rw [upd_ne hda] at hd; exact hd
  have eq : upd (del H' a) d (.xd (fs vs)) = upd H1 d (.xd (fs vs)) := by
    funext b
    by_cases hb : b = d
    · rw [hb, upd_same, upd_same]
    · rw [upd_ne hb, upd_ne hb]
      by_cases hba : b = a
      · rw [hba, del_same, ha]
      · rw [del_ne hba, e3 b hba hb, upd_ne hba]
  rw [eq]
  exact q d hd1
theorem ps_raiseX (hc : X.calm = true) (tk : Takes X W) (T : ExcOk X.prog X.w X.K X.mg X.base C cond fs n) (hn : n ≤ 1000) (hr : Room 2 X.A) (hg : Gl X x) (hm : X.mg x = some (.ref C)) (ha : PA X (e :: es) ta)
    (hdb : (x == ("__debug__" : Str)) = false := by decide) (he : starEach (e :: es) X.env = (false, eval e X.env) :: starEach es X.env := by rfl) (hpl : (backTo pos (starEach es X.env)).any (·.1) = false := by rfl) :
    PS X (.Raise (some (.Call (.Name x p) (e :: es) [] pos)) none pos2) (fun _ σ H => tExc C cond fs n ta σ H fun cls d H' => W cls d σ H') := ps_raise hc tk (pmk_exc T hn hr hg hm ha hdb he hpl)
end
/-! ### the class as the text has it -/
/-- C with its __init__ st, as the top leaves them -/
structure XTxt (P : Program) (K : PySem.W.Frag) (mg : Str → Option Value) (qual : Str) (st : Stmt) (C : Addr) : Prop where
  ex : ∃ (fI cc cda : Addr) (oc doc pm ct : Value) (od : Option Addr) (osl : Array (Option Value)), SupC P K mg C fI cc cda ∧
    K.lookup fI = some ⟨oc, od, .func ((⟨"__init__", qual, defArgs st, defBody st, defScope st, [(("__class__" : Str), cc)], cda⟩ : NF).fd doc pm ct), osl⟩ ∧ PySem.W.codeIn K (.ref cda) qual = true
section
variable {P : Program} {w : World} {K : PySem.W.Frag} {mg : Str → Option Value} {base : Heap} {C : Addr} {qual : Str} {st : Stmt} {cond : List V → Prop} {fs : List V → List (Str × V)} {n : Nat} {N ps : List Str} {rest : List Stmt} {p1 p2 p3 p4 p5 : Pos} {e : Expr} {es : List Expr}
theorem XTxt.ok (T : XTxt P K mg qual st C) (hB : defBody st = supS p1 p2 p3 p4 p5 e es :: rest) (hn : n = ps.length)
    (S : NScope N (("self" : Str) :: ps) ["__class__"] (defScope st)) (hps : ((defArgs st).posonlyargs ++ (defArgs st).args).head?.map (·.arg) = some ("self" : Str)) (hks : (defScope st).names.lookup ("super" : Str) = some .globalImplicit)
    (hb : ∀ (cc cda : Addr) (doc pm ct : Value) (us : List Value), us.length = (("self" : Str) :: ps).length → bindArgs ((⟨"__init__", qual, defArgs st, defBody st, defScope st, [(("__class__" : Str), cc)], cda⟩ : NF).fd doc pm ct) ⟨us, []⟩ = pure ((("self" : Str) :: ps).zip us))
    (he : ∀ (cc cda fI L : Addr), starEach (e :: es) (envF ⟨"__init__", qual, defArgs st, defBody st, defScope st, [(("__class__" : Str), cc)], cda⟩ fI L) = (false, eval e (envF ⟨"__init__", qual, defArgs st, defBody st, defScope st, [(("__class__" : Str), cc)], cda⟩ fI L)) :: starEach es (envF ⟨"__init__", qual, defArgs st, defBody st, defScope st, [(("__class__" : Str), cc)], cda⟩ fI L))
    (hpl : ∀ (cc cda fI L : Addr), (backTo p4 (starEach es (envF ⟨"__init__", qual, defArgs st, defBody st, defScope st, [(("__class__" : Str), cc)], cda⟩ fI L))).any (·.1) = false)
    (hsw : ∀ (cc cda fI L : Addr), swapsWith (.Call (.Attribute (.Call (.Name "super" p1) [] [] p2) "__init__" p3) (e :: es) [] p4) none p5.line (envF ⟨"__init__", qual, defArgs st, defBody st, defScope st, [(("__class__" : Str), cc)], cda⟩ fI L) = pure false)
    (hev : ∀ (cc cda fI L : Addr), ∃ pl, eval (.Call (.Attribute (.Call (.Name "super" p1) [] [] p2) "__init__" p3) (e :: es) [] p4) (envF ⟨"__init__", qual, defArgs st, defBody st, defScope st, [(("__class__" : Str), cc)], cda⟩ fI L) = (do
      let ov ← attributeBase (.Call (.Name "super" p1) [] [] p2) "__init__" (envF ⟨"__init__", qual, defArgs st, defBody st, defScope st, [(("__class__" : Str), cc)], cda⟩ fI L) (eval (.Call (.Name "super" p1) [] [] p2) (envF ⟨"__init__", qual, defArgs st, defBody st, defScope st, [(("__class__" : Str), cc)], cda⟩ fI L))
      standAt p3.atName
      let (f, first) ← holding [ov] (getMethod ov "__init__" pl)
      callWith p4 f first (backTo p4 (starEach (e :: es) (envF ⟨"__init__", qual, defArgs st, defBody st, defScope st, [(("__class__" : Str), cc)], cda⟩ fI L))) []))
    (hbody : ∀ (X : Cx) (cc cda fI L : Addr), X.K = K → X.N = N → X.env = envF ⟨"__init__", qual, defArgs st, defBody st, defScope st, [(("__class__" : Str), cc)], cda⟩ fI L → OexC K C →
      ∃ (ta : TA) (t : TS), PA X (e :: es) ta ∧ PSs X rest t ∧ ∀ (a : Addr) (xs : List V) (H : Hp) (Q : VK), xs.length = n → H a = some (exo a C none) → cond xs →
        (∀ (d : Addr) (H' : Hp), H d = none → d ≠ a → H' a = some (exo a C (some d)) → H' d = some (exd d (fs xs)) → (∀ b, b ≠ a → b ≠ d → H' b = H b) → Q .non H') →
        ta (startF N (.ref a :: xs) [some (.ref C)]) H fun us H1 => us.length ≤ 1000 ∧ H1 a = some (exo a C none) ∧ t { nx := fun _ H' => Q .non H', rt := Q } (startF N (.ref a :: xs) [some (.ref C)]) H1) :
    ExcOk P w K mg base C cond fs n := by
  obtain ⟨fI, cc, cda, oc, doc, pm, ct, od, osl, Z, lk, hcd⟩ := T.ex
  refine ⟨Z.ox, fI, Z.iC, Z.tI, _, _, sup_ok (F := ⟨"__init__", qual, defArgs st, defBody st, defScope st, [(("__class__" : Str), cc)], cda⟩) (k := 0) (N := N) (ps := ps) (sp := sp_exc C cond fs n) Z hB rfl rfl lk hcd S hps hks (hb cc cda doc pm ct) (he cc cda fI) (hpl cc cda fI) (hsw cc cda fI) (hev cc cda fI) (fun vs H Q E h => ?_) (fun A outer s H vs Q E h => ?_), .all (hb cc cda doc pm ct)⟩
  · obtain ⟨a, xs, rfl, hl, _⟩ := h
    show xs.length + 1 = ps.length + 1
    omega
  · obtain ⟨a, xs, rfl, hl, ea, hc, q⟩ := h
    obtain ⟨ta, t, h1, h2, h3⟩ := hbody (ncx (L2.CX P w) P w K mg base N ⟨"__init__", qual, defArgs st, defBody st, defScope st, [(("__class__" : Str), cc)], cda⟩ fI A outer s H E) cc cda fI s.heap.objs.size rfl rfl rfl Z.ox
    exact ⟨a, xs, ta, t, rfl, ea, h1, h2, h3 a xs H Q hl ea hc q⟩
/-- two stores behind one another, the first one the exception's first -/
theorem two_stores {K : PySem.W.Frag} {a C : Addr} {f1 f2 : Str} {to1 te1 to2 te2 : TE} {D : Ends} {σ : L2.St} {H : Hp} {y1 y2 : V} (T : OexC K C) (h1 : PySem.W.findIn K (.ref C) f1 = some none) (h2 : PySem.W.findIn K (.ref C) f2 = some none) (ea : H a = some (exo a C none))
    (e1 : ∀ (H1 : Hp) (Q : VK), Q y1 H1 → te1 σ H1 Q) (e2 : ∀ (H1 : Hp) (Q : VK), Q y2 H1 → te2 σ H1 Q) (o1 : ∀ (H1 : Hp) (Q : VK), Q (.ref a) H1 → to1 σ H1 Q) (o2 : ∀ (H1 : Hp) (Q : VK), Q (.ref a) H1 → to2 σ H1 Q)
    (q : ∀ (d : Addr) (H' : Hp), H d = none → d ≠ a → H' a = some (exo a C (some d)) → H' d = some (exd d [(f2, y2), (f1, y1)]) → (∀ b, b ≠ a → b ≠ d → H' b = H b) → D.nx σ H') : tSeq (tOst K f1 to1 te1) (tOst K f2 to2 te2) D σ H := by
  refine e1 _ _ (o1 _ _ ⟨a, C, rfl, T, h1, .inl ⟨ea, fun d hd hda => ?_⟩⟩)
  refine e2 _ _ (o2 _ _ ⟨a, C, rfl, T, h2, .inr ⟨d, [(f1, y1)], upd_same, by rw [upd_ne hda, upd_same], (by show 1 ≤ 900; decide), ?_⟩⟩)
  refine q d _ hd hda (by rw [upd_ne hda.symm, upd_same]) upd_same fun b hb hbd => ?_
  rw [upd_ne hbd, upd_ne hb, upd_ne hbd]
end
end LB

set_option Elab.async false
set_option linter.all false
set_option maxRecDepth 100000
set_option maxHeartbeats 4000000
/-! several except clauses, each with or without a name; what is asked of the caught error -/
namespace LB
open PySem PySem.Spec PyProof.Rows L2
/-- behind a suite its name is empty -/
def goneE (i : Nat) (D : Ends) : Ends where
  nx := fun σ H => D.nx (σ.set i none) H
  rt := D.rt
  bk := fun σ H => D.bk (σ.set i none) H
  ct := fun σ H => D.ct (σ.set i none) H
abbrev Clause := Value × Option Nat × (Addr → Value → Option Addr → TS)
/-- what the suite of a clause is asked, the error at a -/
def inSuite (D : Ends) (nm : Option Nat) (t : TS) (a : Addr) (σ : L2.St) (H : Hp) : Prop := match nm with
  | none => t D σ H
  | some i => t (goneE i D) (σ.set i (some (.ref a))) H
def wX (K : PySem.W.Frag) (Wout : WX) (D : Ends) : List Clause → WX
  | [] => Wout
  | (c, nm, ts) :: r => fun cls d σ H => ∃ b, PySem.W.exmOne K cls c = some b ∧ (b = true → ∀ a, H a = none → inSuite D nm (ts a cls d) a σ H) ∧ (b = false → wX K Wout D r cls d σ H)
inductive HdsX (X : Cx) : List ExceptHandler → List Clause → Prop
  | nil : HdsX X [] []
  | plain {x : Str} {c : Value} {ts : Addr → Value → Option Addr → TS} {st : Stmt} {sts : List Stmt} {q1 q2 : Pos} {hds : List ExceptHandler} {l : List Clause} (hc : Names X x c)
      (suite : ∀ (a : Addr) (oe : Obj) (cls : Value) (d : Option Addr) (pn : List (Addr × Obj)), Zc cls d oe → (∃ us, oe.data = .fields us) → PSs (X.suite a ((a, oe) :: pn)) (st :: sts) (ts a cls d)) (more : HdsX X hds l) :
      HdsX X (.ExceptHandler (some (.Name x q1)) none (st :: sts) q2 :: hds) ((c, none, ts) :: l)
  | named {x n : Str} {i : Nat} {c : Value} {ts : Addr → Value → Option Addr → TS} {st : Stmt} {sts : List Stmt} {q1 q2 : Pos} {hds : List ExceptHandler} {l : List Clause} (hN : X.N.Nodup) (hi : X.N[i]? = some n) (hln : X.env.kindOf n = some .local) (hc : Names X x c)
      (suite : ∀ (a : Addr) (oe : Obj) (cls : Value) (d : Option Addr) (pn : List (Addr × Obj)), Zc cls d oe → (∃ us, oe.data = .fields us) → PSs (X.suite a ((a, oe) :: pn)) (st :: sts) (ts a cls d)) (more : HdsX X hds l) :
      HdsX X (.ExceptHandler (some (.Name x q1)) (some n) (st :: sts) q2 :: hds) ((c, some i, ts) :: l)
section
variable {X : Cx} {pins : List (Addr × Obj)} {σ : L2.St} {H : Hp} {sI sN : Shared} {a : Addr} {B : Heap} {cls : Value} {d : Option Addr}
/-- an error that has landed at this frame: the state without it, the ground, where it stands -/
structure Landed (X : Cx) (pins : List (Addr × Obj)) (σ : L2.St) (H : Hp) (sI sN : Shared) (a : Addr) (B : Heap) (cls : Value) (d : Option Addr) : Prop where
  st : X.stack = X.env :: X.outer
  fr : X.env.frame = some X.env.locals
  I : Inv X pins σ H sI
  nb : ∀ b o, sI.heap.get? b = some o → b ∉ frs X.stack → B.get? b = some o
  up : sI.heap.UpToSlots sN.heap
  na : H a = none
  os : sN.os = sI.os
  ag : AllBare sN.gens
  fly : HandSPX.FlyingZ B (X.env :: X.outer) a (Zc cls d) sN.heap
theorem Landed.inv (L : Landed X pins σ H sI sN a B cls d) : Inv X pins σ H sN := L.I.landed L.nb L.fly.1 L.up L.os L.ag
theorem Landed.off (L : Landed X pins σ H sI sN a B cls d) : a ≠ X.env.locals ∧ a ∉ X.fs := by
  obtain ⟨oe, us, e1, e2, e3⟩ := L.fly.there
  have key : a ∉ frs (X.env :: X.outer) := fun hm => by
    obtain ⟨_, o2, q1, q2⟩ := L.fly.2.2.1.mem hm
    rw [e1] at q1
    cases q1
    exact q2 _ e3
  refine ⟨fun z => key (List.mem_filterMap.mpr ⟨X.env, List.mem_cons_self, by rw [L.fr, z]⟩), fun hm => ?_⟩
  obtain ⟨v, h1, h2⟩ := List.mem_filterMap.mp hm
  exact key (List.mem_filterMap.mpr ⟨v, List.mem_cons_of_mem _ h1, h2⟩)
/-- the clauses, one behind the other -/
theorem clauses {Wout : WX} {D : Ends} (tk : Takes X Wout) (L : Landed X pins σ H sI sN a B cls d) : ∀ {hds : List ExceptHandler} {l : List Clause}, HdsX X hds l → wX X.K Wout D l cls d σ H →
    wpAny (model X.prog X.w) X.A (handleBy (.ref a) X.env hds) (SP X pins D) X.xe sN := by
  intro hds l hk
  have ok := L.I.ok
  have J := L.inv
  obtain ⟨off1, off2⟩ := L.off
  obtain ⟨oe3, us3, g3, z3, f3⟩ := L.fly.there
  have S3 := J.suite g3 f3 L.na off1 off2
  -- a clause's class is read, and asked
  have ask : ∀ {x : Str} {c : Value} {q1 : Pos} {b : Bool} {Q : Bool → Shared → Prop}, Names X x c → PySem.W.exmOne X.K cls c = some b → Q b sN → True := fun _ _ _ => trivial
  have name : ∀ {x : Str} {c : Value} {q1 : Pos} {Q : Value → Shared → Prop} {E : Value → Shared → Prop}, Names X x c → Q c sN → wpAny (model X.prog X.w) (X.A.mark (some (.ref a))) (eval (.Name x q1) X.env) Q E sN := fun hc q => by
    obtain ⟨h1, h2, h3⟩ := hc
    rcases h3 with h3 | ⟨h3, h4, h5⟩
    · exact ld_glob (X := X.suite a ((a, oe3) :: (X.pn ++ pins))) S3 h1 h3 q h2
    · exact ld_blt (X := X.suite a ((a, oe3) :: (X.pn ++ pins))) S3 h1 h3 h4 q h5 h2
  have LT : PySem.W.Looks (model X.prog X.w) sN.heap (typeOf (.ref a)) cls := fun A Q E s k q => wpAny_typeOf_ref (k _ _ g3) (by rw [z3.1]; exact q)
  induction hk with
  | nil =>
    intro wish
    refine wpAny_handleBy_nil ?_
    obtain ⟨_, _, _, oe, us, tr, _, _, e1, e2, e3, e4, _⟩ := id L.fly
    unfold PySem.passOn
    refine wpAny_bind (wpAny_field e1 e3 e4 ?_)
    rw [if_neg (show (Value.ref tr == Value.none) = true → False from by simp)]
    have away : wpAny (model X.prog X.w) X.A (setFlight (.ref a) X.env.frame) (fun _ s4 => wpAny (model X.prog X.w) X.A (throw (.ref a) : Sem Flow) (SP X pins D) X.xe s4) X.xe sN := by
      rw [L.fr]
      refine HandSPX.setFlight_upZ L.fly fun h4 held up4 => wpAny_throw (tk _ _ ?_)
      refine ⟨a, B, sI, pins, σ, H, cls, d, rfl, L.I, L.nb, L.up.trans up4, .inr (.inr ?_), L.na, L.os, L.ag, wish⟩
      rw [L.st]
      exact held
    first
      | exact wpAny_bind (wpAny_pure (wpAny_bind away))
      | exact wpAny_bind away
  | @plain x c ts st sts q1 q2 hds2 l2 hc suite more ih =>
    rintro ⟨b, e1, yes, no⟩
    refine wpAny_handleBy_cons (codeAny_handlers_test ?_) (by intro z; cases z)
    refine name hc ((PySem.W.exm_one (M := model X.prog X.w) J.kIn LT e1).here ?_)
    cases b with
    | false => exact ih (no rfl)
    | true =>
      refine codeAny_handlers_suite (HandSPX.lands_againZ L.fly fun h4 fl4 up4 => ?_)
      have J4 : Inv X pins σ H { sN with heap := h4 } := L.I.landed L.nb fl4.1 (L.up.trans up4) L.os L.ag
      obtain ⟨oe4, us4, g4, z4, f4⟩ := fl4.there
      refine wpAny_mono ((suite a oe4 cls d (X.pn ++ pins) z4 ⟨_, f4⟩).run [] _ _ H _ (J4.suite g4 f4 L.na off1 off2) (yes rfl a L.na)) (fun f s6 out => ?_) (fun _ _ z => False.elim z)
      cases f with
      | ret u =>
        obtain ⟨v6, σ6, H6, S6, r6, k6⟩ := out
        exact ⟨v6, σ6, H6, S6.unsuite ok, r6, k6⟩
      | next =>
        obtain ⟨σ6, H6, S6, k6⟩ := out
        exact ⟨σ6, H6, S6.unsuite ok, k6⟩
      | brk =>
        obtain ⟨σ6, H6, S6, k6⟩ := out
        exact ⟨σ6, H6, S6.unsuite ok, k6⟩
      | cont =>
        obtain ⟨σ6, H6, S6, k6⟩ := out
        exact ⟨σ6, H6, S6.unsuite ok, k6⟩
  | @named x n i c ts st sts q1 q2 hds2 l2 hN hi hln hc suite more ih =>
    rintro ⟨b, e1, yes, no⟩
    refine wpAny_handleBy_cons (codeAny_handlers_test ?_) (by intro z; cases z)
    refine name hc ((PySem.W.exm_one (M := model X.prog X.w) J.kIn LT e1).here ?_)
    cases b with
    | false => exact ih (no rfl)
    | true =>
      refine codeAny_handlers_suite_as (HandSPX.lands_againZ L.fly fun h4 fl4 up4 => ?_)
      have J4 : Inv X pins σ H { sN with heap := h4 } := L.I.landed L.nb fl4.1 (L.up.trans up4) L.os L.ag
      obtain ⟨oe4, us4, g4, z4, f4⟩ := fl4.there
      refine store_ok (X := X.suite a ((a, oe4) :: (X.pn ++ pins))) (v := .ref a) (J4.suite g4 f4 L.na off1 off2) hN hi (.inl hln) rfl (fun s5 S5 => ?_) (.inr hln)
      have leave : ∀ {σ6 : L2.St} {H6 : Hp} {s6 : Shared} {Q : Shared → Prop}, Inv (X.suite a ((a, oe4) :: (X.pn ++ pins))) [] σ6 H6 s6 → (∀ s7, Inv X pins (σ6.set i none) H6 s7 → Q s7) →
          wpAny (model X.prog X.w) X.A (do bindName X.env n .none; unbindBehindTheSuite X.env n q2) (fun _ s7 => Q s7) X.xe s6 := fun S6 k => gone_ok (S6.unsuite ok) hN hi hln k
      refine wpAny_mono ((suite a oe4 cls d (X.pn ++ pins) z4 ⟨_, f4⟩).run [] s5 _ H _ S5 (yes rfl a L.na)) (fun f s6 out => ?_) (fun _ _ z => False.elim z)
      cases f with
      | ret u =>
        obtain ⟨v6, σ6, H6, S6, r6, k6⟩ := out
        exact leave S6 fun s7 J7 => ⟨v6, _, H6, J7, r6, k6⟩
      | next =>
        obtain ⟨σ6, H6, S6, k6⟩ := out
        exact leave S6 fun s7 J7 => ⟨_, H6, J7, k6⟩
      | brk =>
        obtain ⟨σ6, H6, S6, k6⟩ := out
        exact leave S6 fun s7 J7 => ⟨_, H6, J7, k6⟩
      | cont =>
        obtain ⟨σ6, H6, S6, k6⟩ := out
        exact leave S6 fun s7 J7 => ⟨_, H6, J7, k6⟩
end
section
variable {X : Cx} {body : List Stmt} {hd₀ : ExceptHandler} {hds : List ExceptHandler} {l : List Clause} {pos : Pos} {tb : WX → TS} {Wout : WX}
theorem ps_tryX (st : X.stack = X.env :: X.outer) (fr : X.env.frame = some X.env.locals) (tk : Takes X Wout)
    (hb : ∀ (W : WX) (pn : List (Addr × Obj)) (xe : Value → Shared → Prop), Takes (X.tr pn xe) W → PassesOwn (model X.prog X.w) X.A X.env xe → PSs (X.tr pn xe) body (tb W)) (hh : HdsX X (hd₀ :: hds) l) :
    PS X (.Try body (hd₀ :: hds) [] [] pos) (fun D σ H => tb (wX X.K Wout D l) D σ H) := by
  refine ⟨fun pins s σ H D I h => ?_⟩
  have ok := I.ok
  have hfr : X.A.frames = some (X.env :: X.outer) := by rw [ok.frames, st]
  have run := hb (wX X.K Wout D l) (X.pn ++ pins) (fun er s1 => wpAny (model X.prog X.w) X.A (noteFrame er X.env) (fun _ s2 => wpAny (model X.prog X.w) X.A (setFlight er none) (fun _ s3 =>
    wpAny (model X.prog X.w) X.A (handleBy er X.env (hd₀ :: hds)) (SP X pins D) X.xe s3) X.xe s2) X.xe s1) (fun u sN air => ?_) PassesOwn.looking
  · refine wpAny_Try_except (wpAny_mono (run.run [] s σ H D (I.toTry _) h) (fun f s1 out => ?_) (fun er s1 he => he))
    cases f with
    | ret u =>
      obtain ⟨v6, σ6, H6, S6, r6, k6⟩ := out
      exact ⟨v6, σ6, H6, S6.ofTry ok, r6, k6⟩
    | next =>
      obtain ⟨σ6, H6, S6, k6⟩ := out
      exact wpAny_execs_nil ⟨σ6, H6, S6.ofTry ok, k6⟩
    | brk =>
      obtain ⟨σ6, H6, S6, k6⟩ := out
      exact ⟨σ6, H6, S6.ofTry ok, k6⟩
    | cont =>
      obtain ⟨σ6, H6, S6, k6⟩ := out
      exact ⟨σ6, H6, S6.ofTry ok, k6⟩
  · obtain ⟨a, B, sI, pins', σ', H', cls, d, rfl, J', nb, up, sky, na, os, ag, wish⟩ := air
    have sky' : Sky B (X.env :: X.outer) a (Zc cls d) X.env.locals sN.heap := by rw [← st]; exact sky
    refine Sky.land Zc.steady hfr fr sky' fun h3 fl3 up3 => ?_
    exact clauses (sN := { sN with heap := h3 }) tk ⟨st, fr, J'.ofTry ok, nb, up.trans up3, na, os, ag, fl3⟩ hh wish
end
end LB
/-! ### isinstance of the caught error -/
namespace PySem.W
open PySem PySem.Spec PySem.Calls PyProof.Rows
section
variable {prog : Program} {w : World} {A : Around} {E : Value → Shared → Prop} {s : Shared} {K : Frag} {x D : Addr} {ox : Obj} {od : Option Obj}
/-- what is asked of the class -/
structure LbExc (K : Frag) (D : Addr) : Prop where
  ga : findIn K (.ref D) "__getattribute__" = some (some (.builtin "BaseException.__getattribute__"))
  gg : findIn K (.ref D) "__getattr__" = some none
  sb : subIn K (.ref D) (.type "BaseException") = some true
  hd : hasDictIn K D = true
  ha : findIn K (.ref D) "__class__" = some (some (.builtin "object.__class__"))
  hn : specialIn K (.builtin "object.__class__") "__get__" = some (some (.builtin "getset_descriptor.__get__"))
  ht : takesIn K (.builtin "object.__class__") = some true
  hm : mroIn K D (.type "object") = some true
theorem lb_find (C : LbExc K D) : findObj K D od "__class__" = some (.bind (.builtin "getset_descriptor.__get__") (.builtin "object.__class__")) := by
  obtain ⟨cd, hc, _⟩ := any_some C.hd
  unfold findObj
  rw [hc, Option.bind_some, C.ha, Option.bind_some]
  simp [C.hn, C.ht]
theorem lb_class {Q : Option Value → Shared → Prop} (C : LbExc K D) (X : K.In s.heap) (I : InstAt s.heap x ox D od) (h : Q (some (.ref D)) { s with toks := s.toks + 1 }) : wpAny (model prog w) A (getAttr? (.ref x) "__class__") Q E s := by
  obtain ⟨hp, g, d, t, os⟩ := s
  have T := I.type (M := model prog w)
  have F3 := looks_find (M := model prog w) X I (lb_find (od := od) C)
  have ne : (Value.builtin "BaseException.__getattribute__" == Value.builtin "object.__getattribute__") = false := by decide +kernel
  unfold getAttr? getAttrBy? getAttrBy
  refine wpAny_bind (wpAny_mkText (wpAny_bind (wpAny_attempt (wpAny_holding (wpAny_bind (T.at (wpAny_bind ((looks_findIn (M := model prog w) X C.ga).at ?_))))))))
  dsimp only
  rw [if_neg (show ¬ (onTheHeap (Value.ref D) && Value.builtin "BaseException.__getattribute__" == Value.builtin "object.__getattribute__") = true by rw [ne, Bool.and_false]; exact Bool.false_ne_true)]
  unfold getAttrByItsOwn hookBefore
  refine wpAny_bind ?_
  rw [if_pos (show onTheHeap (Value.ref D) = true from rfl)]
  refine (looks_findIn (M := model prog w) X C.gg).at (wpAny_bind (wpAny_attempt (wpAny_holding ?_)))
  unfold callGetattribute
  rw [if_neg (show ¬ (false && onTheHeap (Value.builtin "BaseException.__getattribute__")) = true from Bool.false_ne_true)]
  unfold boundAndCalled
  rw [PySem.F.excAttr_ValueError.ga.bind (.ref x)]
  refine wpAny_bind (wpAny_pure (wpAny_call (codeAny_call_builtin PySem.F.excAttr_ValueError.ga.plain PySem.F.entry_bexc_ga ?_)))
  refine @check_slot (model prog w) _ _ ⟨hp, g, d, t + 1, os⟩ "BaseException.__getattribute__" "BaseException" "__getattribute__" (.ref x) [.str "__class__" t] [] _ (by decide +kernel) (by decide +kernel) (T.andThen (looks_subIn X C.sb)) (PySem.F.args_bexc_ga (.ref x) (.str "__class__" t)) ?_
  unfold Builtin.«object.__getattribute__»
  refine wpAny_bind (wpAny_of_eq (a := ((Value.ref x : Value), [Value.str "__class__" t])) (by first | rfl | (simp only [slotArgs]; rfl)) (wpAny_bind (wpAny_pure (wpAny_bind (T.at (wpAny_bind (F3.at ?_)))))))
  refine wpAny_bind (wpAny_holding (wpAny_call (class_get (s := ⟨hp, g, d, t + 1, os⟩) (ox := ox) (od := od) X I C.hm ?_)))
  refine wpAny_pure ?_
  show wpAny _ _ (handedOut (.ref D)) _ _ _
  rw [handedOut_of (v := .ref D) rfl]
  first
    | exact wpAny_pure (wpAny_pure h)
    | exact wpAny_pure h
    | exact wpAny_pure (wpAny_bind (wpAny_pure (wpAny_pure h)))
theorem lb_kit (C : LbExc K D) : KitX K (.ref x) (.ref D) (fun h => ∃ ox od, InstAt h x ox D od) where
  ty := fun _ _ _ ⟨_, _, I⟩ => I.type
  it := fun _ _ X _ => by
    obtain ⟨cdD, hcD, _⟩ := any_some C.hd
    unfold clsIn at hcD
    split at hcD
    · rename_i ho
      intro A' Q' E' s' k q
      unfold isType loadHead
      exact wpAny_bind (wpAny_loadPart (k _ _ (X _ _ ho)) (wpAny_pure q))
    · cases hcD
  ne := fun h tp dd its n sl X htp => by
    obtain ⟨cdD, hcD, _⟩ := any_some C.hd
    refine Bool.eq_false_iff.mpr fun q => ?_
    obtain rfl : D = tp := Value.ref.inj (beq_iff_eq.mp q)
    unfold clsIn at hcD
    split at hcD
    · rename_i ho
      have z := (X _ _ ho).symm.trans htp
      cases z
    · cases hcD
  ca := fun X ⟨_, _, I⟩ k => lb_class C X I k
end
end PySem.W
namespace LB
open PySem PySem.Spec PyProof.Rows L2
@[irreducible] def rIsX (K : PySem.W.Frag) (a D : Addr) (cls : Value) (d : Option Addr) : List V → Hp → VK → Prop := fun xs H Q => ∃ (c : V) (cv : Value) (b : Bool), xs = [.ref a, c] ∧ cls = .ref D ∧ ClsV c cv ∧ PySem.W.kitOne K (.ref D) cv = some b ∧ (∃ dd fs, d = some dd ∧ H dd = some (.xd fs)) ∧ Q (.bl b) H
theorem call_isX {X : Cx} {a D : Addr} {oe : Obj} {cls : Value} {d : Option Addr} {pn : List (Addr × Obj)} (C : PySem.W.LbExc X.K D) (hz : Zc cls d oe) (hf : ∃ vs, oe.data = .fields vs) : CallR (X.suite a ((a, oe) :: pn)) (.builtin "isinstance") (rIsX X.K a D cls d) := by
  intro pins s σ H xs us Q I r h
  unfold rIsX at h
  obtain ⟨c, cv, b, rfl, rfl, hcv, e, ⟨dd, fs, rfl, ed⟩, q⟩ := h
  obtain ⟨u1, u2, rfl, r1, r2⟩ := vals2 r
  obtain rfl := hcv.eq r2
  obtain rfl : u1 = Value.ref a := r1
  obtain ⟨hget, _⟩ := I.pin (a, oe) (List.mem_append.mpr (.inl List.mem_cons_self))
  obtain ⟨vs, hv⟩ := hf
  have hx : ObjOk X.prog X.w H s.heap dd (.xd fs) := I.hok dd _ ed
  obtain ⟨mA, ⟨od, _, _, ho, _⟩, _⟩ := hx
  have J : PySem.W.InstAt s.heap a oe D (some od) := ⟨hget, hz.1, by unfold PySem.W.notCls; rw [hv] <;> rfl, by rw [hz.2]; exact ho⟩
  exact PySem.W.kia_one (PySem.W.lb_kit C) I.kIn ⟨oe, some od, J⟩ e (fun z => nomatch z) fun tk => ⟨.bl b, H, I.kept (t' := tk) fun _ _ z => z, rfl, q⟩
end LB
namespace LB
open PySem PySem.Spec PyProof.Rows L2
/-- an exception class of the text: what raising, catching and asking want of it -/
structure ECls (K : PySem.W.Frag) (C : Addr) : Prop where
  lx : PySem.W.LbExc K C
  ty : PySem.W.typeIn K (.ref C) = some (.type "type")
  self : PySem.W.mroIn K C (.ref C) = some true
theorem ECls.isCls {K : PySem.W.Frag} {C : Addr} (E : ECls K C) : ((PySem.W.clsIn K C).isSome && PySem.W.typeIn K (.ref C) == some (.type "type")) = true := by
  obtain ⟨cd, hc, _⟩ := PySem.W.any_some E.lx.hd
  rw [hc, E.ty]
  rfl
theorem ECls.exm {K : PySem.W.Frag} {Y C : Addr} {b : Bool} (E : ECls K C) (h : PySem.W.subIn K (.ref Y) (.ref C) = some b) : PySem.W.exmOne K (.ref Y) (.ref C) = some b :=
  PySem.W.exm_ref E.lx.sb E.lx.hd E.ty h
theorem ECls.kit {K : PySem.W.Frag} {Y C : Addr} {b : Bool} (E : ECls K C) (h : PySem.W.subIn K (.ref Y) (.ref C) = some b) : PySem.W.kitOne K (.ref Y) (.ref C) = some b := by
  unfold PySem.W.kitOne
  by_cases e : (Value.ref Y == Value.ref C) = true
  · rw [if_pos e]
    have e2 : Y = C := Value.ref.inj (beq_iff_eq.mp e)
    subst e2
    have h2 : PySem.W.mroIn K Y (.ref Y) = some b := h
    rw [E.self] at h2
    exact h2
  · rw [if_neg e]
    show (if ((PySem.W.clsIn K C).isSome && PySem.W.typeIn K (.ref C) == some (.type "type")) = true then PySem.W.subIn K (.ref Y) (.ref C) else none) = some b
    rw [if_pos E.isCls]
    exact h
theorem kit_ve {K : PySem.W.Frag} {Y : Addr} {b : Bool} (h : PySem.W.subIn K (.ref Y) (.type "ValueError") = some b) : PySem.W.kitOne K (.ref Y) (.type "ValueError") = some b := by
  unfold PySem.W.kitOne
  rw [if_neg (show ¬ (Value.ref Y == Value.type "ValueError") = true from fun z => nomatch beq_iff_eq.mp z)]
  show (if PySem.W.kitMeta "ValueError" = true then PySem.W.subIn K (.ref Y) (.type "ValueError") else none) = some b
  rw [if_pos (by decide +kernel)]
  exact h
theorem ECls.xf {K : PySem.W.Frag} {C : Addr} (E : ECls K C) : XfC K C := ⟨E.lx.ga, E.lx.gg, E.lx.sb, E.lx.hd⟩
/-- what an error with one own field holds -/
def fs1 (label field : Str) : List V → List (Str × V) := fun xs => [(field, xs.headD .non), ("label", .str label)]
def text1 : List V → Prop := fun xs => ∃ z : Str, xs = [.str z] ∧ z.length ≤ 1000000
theorem text_len (a z : Str) (h1 : a.length ≤ 1000) (h2 : z.length ≤ 1000000) : (Str.empty ++ a).length ≤ sizeLine ∧ (Str.empty ++ a ++ z).length ≤ sizeLine := by
  have e1 : ∀ x y : Str, (x ++ y).length = x.length + y.length := fun x y => Array.size_append
  have e0 : Str.empty.length = 0 := rfl
  rw [e1, e1, e1, e0, sizeLine_eq]
  omega
section
variable {K : PySem.W.Frag}
theorem wx_hit {Wout : WX} {D : Ends} {c cls : Value} {nm : Option Nat} {ts : Addr → Value → Option Addr → TS} {r : List Clause} {d : Option Addr} {σ : L2.St} {H : Hp} (e : PySem.W.exmOne K cls c = some true) (h : ∀ a, H a = none → inSuite D nm (ts a cls d) a σ H) :
    wX K Wout D ((c, nm, ts) :: r) cls d σ H := ⟨true, e, fun _ => h, fun z => nomatch z⟩
theorem wx_miss {Wout : WX} {D : Ends} {c cls : Value} {nm : Option Nat} {ts : Addr → Value → Option Addr → TS} {r : List Clause} {d : Option Addr} {σ : L2.St} {H : Hp} (e : PySem.W.exmOne K cls c = some false) (h : wX K Wout D r cls d σ H) :
    wX K Wout D ((c, nm, ts) :: r) cls d σ H := ⟨false, e, fun z => (nomatch z), fun _ => h⟩
theorem isX_go {a D C dd : Addr} {fs : List (Str × V)} {b : Bool} {H : Hp} {Q : VK} (k : PySem.W.kitOne K (.ref D) (.ref C) = some b) (e : H dd = some (.xd fs)) (q : Q (.bl b) H) : rIsX K a D (.ref D) (some dd) [.ref a, .ref C] H Q := by
  unfold rIsX
  exact ⟨_, _, b, rfl, rfl, .own _, k, ⟨dd, fs, rfl, e⟩, q⟩
theorem isX_ve {a D dd : Addr} {fs : List (Str × V)} {b : Bool} {H : Hp} {Q : VK} (k : PySem.W.subIn K (.ref D) (.type "ValueError") = some b) (e : H dd = some (.xd fs)) (q : Q (.bl b) H) : rIsX K a D (.ref D) (some dd) [.ref a, .ty "ValueError"] H Q := by
  unfold rIsX
  exact ⟨_, _, b, rfl, rfl, .ty _, kit_ve k, ⟨dd, fs, rfl, e⟩, q⟩
end
end LB

set_option Elab.async false
set_option linter.all false
set_option maxRecDepth 100000
set_option maxHeartbeats 4000000
/-! texts -/
namespace LB
open PySem PySem.Spec PyProof.Rows L2
/-! ### s[i], s[a:b], s + t, len(s), <=, in -/
@[irreducible] def rIxSs : R2 := fun x y H Q => rIxS x y H Q
theorem ix_ss {X : Cx} : IxR X rIxSs := fun value slice pins s σ H x y v u Q I rx ry h hs => ix_str value slice pins s σ H x y v u Q I rx ry (by unfold rIxSs at h; exact h) hs
@[irreducible] def rSlSs : V → Option Int → Option Int → Hp → VK → Prop := fun x lo hi H Q => rSlS x lo hi H Q
theorem sl_ss {X : Cx} : SlR X rSlSs := fun pins s σ H x v vl vu lo hi sl Q I rx hs pl pu h => sl_str pins s σ H x v vl vu lo hi sl Q I rx hs pl pu (by unfold rSlSs at h; exact h)
@[irreducible] def rAddS : R2 := fun x y H Q => ∃ i j, x = .str i ∧ y = .str j ∧ i.length + j.length ≤ sizeLine ∧ Q (.str (i ++ j)) H
theorem op_addS {X : Cx} : OpR X (binaryOp .Add) rAddS := fun pins s σ H x y v u Q I rx ry h => op_add_str pins s σ H x y v u Q I rx ry (by unfold rAddS at h; exact h)
@[irreducible] def rLenS : List V → Hp → VK → Prop := fun xs H Q => ∃ z, xs = [.str z] ∧ z.length ≤ sizeLine ∧ Q (.int z.length) H
theorem call_lenS {X : Cx} : CallR X (.builtin "len") rLenS := fun pins s σ H xs us Q I r h => call_len_str pins s σ H xs us Q I r (by unfold rLenS at h; exact h)
@[irreducible] def rLeS : R2 := fun x y H Q => ∃ i j, x = .str i ∧ y = .str j ∧ Q (.bl (!decide (j.cps.toList < i.cps.toList))) H
theorem op_leS {X : Cx} : OpR X (compareOp .LtE) rLeS := fun pins s σ H x y v u Q I rx ry h => op_le_str pins s σ H x y v u Q I rx ry (by unfold rLeS at h; exact h)
@[irreducible] def rInC (neg : Bool) : R2 := fun x y H Q => ∃ (c : Nat) (z : Str), x = .str ⟨#[c]⟩ ∧ y = .str z ∧ Q (.bl (if neg then !decide (c ∈ z.cps.toList) else decide (c ∈ z.cps.toList))) H
theorem op_inC {X : Cx} : OpR X (compareOp .In) (rInC false) := fun pins s σ H x y v u Q I rx ry h => op_in_sign pins s σ H x y v u Q I rx ry (by unfold rInC at h; exact h)
theorem op_niC {X : Cx} : OpR X (compareOp .NotIn) (rInC true) := fun pins s σ H x y v u Q I rx ry h => op_notIn_sign pins s σ H x y v u Q I rx ry (by unfold rInC at h; exact h)
section
variable {H : Hp} {Q : VK} {z y : Str} {i : Int} {c : Nat} {lo hi : Option Int}
theorem ixS_go (h : z.length ≤ sizeLine) (e : atI z.cps.toList i = some c) (q : Q (.str ⟨#[c]⟩) H) : rIxSs (.str z) (.int i) H Q := by
  unfold rIxSs
  exact ⟨z, i, c, rfl, rfl, h, e, q⟩
theorem slS_go (h : z.length ≤ sizeLine) (q : Q (.str (cutS z lo hi)) H) : rSlSs (.str z) lo hi H Q := by
  unfold rSlSs
  exact ⟨z, rfl, h, q⟩
theorem addS_go (h : z.length + y.length ≤ sizeLine) (q : Q (.str (z ++ y)) H) : rAddS (.str z) (.str y) H Q := by
  unfold rAddS
  exact ⟨z, y, rfl, rfl, h, q⟩
theorem lenS_go (h : z.length ≤ sizeLine) (q : Q (.int z.length) H) : rLenS [.str z] H Q := by
  unfold rLenS
  exact ⟨z, rfl, h, q⟩
theorem leS_go (q : Q (.bl (!decide (y.cps.toList < z.cps.toList))) H) : rLeS (.str z) (.str y) H Q := by
  unfold rLeS
  exact ⟨z, y, rfl, rfl, q⟩
theorem inC_go (q : Q (.bl (decide (c ∈ z.cps.toList))) H) : rInC false (.str ⟨#[c]⟩) (.str z) H Q := by
  unfold rInC
  exact ⟨c, z, rfl, rfl, q⟩
theorem niC_go (q : Q (.bl (!decide (c ∈ z.cps.toList))) H) : rInC true (.str ⟨#[c]⟩) (.str z) H Q := by
  unfold rInC
  exact ⟨c, z, rfl, rfl, q⟩
end
/-! ### for c in s -/
theorem for_txt {z : Str} {g : TG} {tb : TS} {D : Ends} {σ : L2.St} {H : Hp} (Pv : Nat → L2.St → Hp → Prop) (h0 : Pv 0 σ H)
    (hs : ∀ (i : Nat) (c : Nat) (σ : L2.St) (H : Hp), z.cps.toList[i]? = some c → Pv i σ H → g (.str ⟨#[c]⟩) σ H fun σ2 H2 => tb { D with nx := Pv (i + 1), ct := Pv (i + 1), bk := D.nx } σ2 H2) (hd : ∀ σ H, Pv z.cps.size σ H → D.nx σ H) :
    ∃ W : Nat → Nat → L2.St → Hp → Prop, (∃ m, W 0 m σ H) ∧ ∀ i m σ H, W i m σ H →
      ((Its z).stop i H ∧ D.nx σ H) ∨ ((Its z).go i H ∧ ∃ N : L2.St → Hp → Prop, (∀ σ' H', N σ' H' → ∃ m', m' < m ∧ W (i + 1) m' σ' H') ∧ ∀ x H', (Its z).yld i H x H' → g x σ H' fun σ2 H2 => tb { D with nx := N, ct := N, bk := D.nx } σ2 H2) := by
  refine ⟨fun i m σ H => m = z.cps.size - i ∧ i ≤ z.cps.size ∧ Pv i σ H, ⟨z.cps.size, by simp, Nat.zero_le _, h0⟩, ?_⟩
  rintro i m σ H ⟨rfl, hi, p⟩
  by_cases hlt : i < z.cps.size
  · refine .inr ⟨hlt, Pv (i + 1), fun σ' H' p' => ⟨z.cps.size - (i + 1), by omega, rfl, hlt, p'⟩, fun x H' y => ?_⟩
    obtain ⟨rfl, c, e, rfl⟩ := y
    exact hs i c σ H' (by rw [Array.getElem?_toList]; exact e) p
  · have e : i = z.cps.size := by omega
    subst e
    exact .inl ⟨Nat.le_refl _, hd σ H p⟩
/-! ### plain facts -/
theorem lt_one {a b : Nat} : (([a] : List Nat) < [b]) ↔ a < b := by
  constructor
  · intro h
    cases h with
    | rel h => exact h
    | cons h => cases h
  · intro h
    exact .rel h
theorem okS_of {z : Str} (h : ∀ c ∈ z.cps.toList, c < 1114112) : okS z = true := by
  unfold okS
  refine List.all_eq_true.mpr fun c hc => ?_
  rw [Nat.blt_eq]
  exact h c hc
theorem okS_mem {z : Str} (h : okS z = true) : ∀ c ∈ z.cps.toList, c < 1114112 := fun c hc => by
  unfold okS at h
  have := List.all_eq_true.mp h c hc
  rw [Nat.blt_eq] at this
  exact this
theorem okS_app {y z : Str} (h : okS y = true) (k : okS z = true) : okS (y ++ z) = true := okS_of fun c hc => by
  have e : (y ++ z).cps.toList = y.cps.toList ++ z.cps.toList := Array.toList_append
  rw [e, List.mem_append] at hc
  exact hc.elim (okS_mem h c) (okS_mem k c)
theorem okS_cut {z : Str} (h : okS z = true) (lo hi : Option Int) : okS (cutS z lo hi) = true := okS_of fun c hc => by
  have e : (cutS z lo hi).cps.toList = ((z.cps.toList.drop (HT.sIx z.length 0 lo)).take (HT.sIx z.length z.length hi - HT.sIx z.length 0 lo)) := rfl
  rw [e] at hc
  exact okS_mem h c (List.mem_of_mem_drop (List.mem_of_mem_take hc))
theorem okS_one {c : Nat} (h : c < 1114112) : okS ⟨#[c]⟩ = true := okS_of fun d hd => by
  have e : (⟨#[c]⟩ : Str).cps.toList = [c] := rfl
  rw [e, List.mem_singleton] at hd
  omega
theorem len_app {y z : Str} : (y ++ z).length = y.length + z.length := Array.size_append
theorem len_cut (z : Str) (lo hi : Option Int) : (cutS z lo hi).length ≤ z.length := by
  show (((z.cps.toList.drop (HT.sIx z.length 0 lo)).take (HT.sIx z.length z.length hi - HT.sIx z.length 0 lo)).toArray).size ≤ z.length
  rw [List.size_toArray, List.length_take, List.length_drop]
  have : z.cps.toList.length = z.length := rfl
  omega
theorem len_list (z : Str) : z.cps.toList.length = z.length := rfl
theorem atI_txt {z : Str} {i : Int} (j : Nat) (h : j < z.length) (e : i = j) : ∃ c, z.cps.toList[j]? = some c ∧ c ∈ z.cps.toList ∧ atI z.cps.toList i = some c := by
  subst e
  have h' : j < z.cps.toList.length := h
  exact ⟨_, List.getElem?_eq_getElem h', List.getElem_mem h', atI_nat (List.getElem?_eq_getElem h')⟩
/-! ### names -/
def lowC (c : Nat) : Bool := decide (97 ≤ c) && decide (c ≤ 122)
def digC (c : Nat) : Bool := decide (48 ≤ c) && decide (c ≤ 57)
def headC : List Nat → Bool
  | c :: _ => lowC c
  | [] => false
def nameB (z : Str) : Bool := (decide (1 ≤ z.length) && decide (z.length ≤ 12)) && (headC z.cps.toList && z.cps.toList.all fun c => lowC c || digC c)
theorem low_le (c : Nat) : (!decide ([c] < [97])) = decide (97 ≤ c) := by
  by_cases h : 97 ≤ c
  · rw [decide_eq_true h, decide_eq_false (by rw [lt_one]; omega)]; rfl
  · rw [decide_eq_false h, decide_eq_true (by rw [lt_one]; omega)]; rfl
theorem in_low (c : Nat) : decide (c ∈ ("abcdefghijklmnopqrstuvwxyz" : Str).cps.toList) = lowC c := by
  have e : ("abcdefghijklmnopqrstuvwxyz" : Str).cps.toList = [97, 98, 99, 100, 101, 102, 103, 104, 105, 106, 107, 108, 109, 110, 111, 112, 113, 114, 115, 116, 117, 118, 119, 120, 121, 122] := by decide +kernel
  rw [e]
  unfold lowC
  rw [Bool.eq_iff_iff, Bool.and_eq_true, decide_eq_true_iff, decide_eq_true_iff, decide_eq_true_iff]
  simp only [List.mem_cons, List.not_mem_nil, or_false]
  omega
theorem in_dig (c : Nat) : decide (c ∈ ("0123456789" : Str).cps.toList) = digC c := by
  have e : ("0123456789" : Str).cps.toList = [48, 49, 50, 51, 52, 53, 54, 55, 56, 57] := by decide +kernel
  rw [e]
  unfold digC
  rw [Bool.eq_iff_iff, Bool.and_eq_true, decide_eq_true_iff, decide_eq_true_iff, decide_eq_true_iff]
  simp only [List.mem_cons, List.not_mem_nil, or_false]
  omega
/-! ### sep.join(xs) -/
@[irreducible] def rJoinS (K : PySem.W.Frag) : V → List V → Hp → VK → Prop := fun x xs H Q => ∃ a p, ∃ ys : List Str, x = .str a ∧ xs = [.ref p] ∧ (SqL K H p (ys.map V.str) ∨ SqT K H p (ys.map V.str)) ∧ (ys.map (·.length)).sum + ys.length * a.length ≤ 16777216 ∧ Q (.str (Txt.join a ys)) H
theorem mt_joinS {X : Cx} : MtR X "str.join" (rJoinS X.K) := fun pins s σ H x xs v us Q I rx rs h => mt_join pins s σ H x xs v us Q I rx rs (by unfold rJoinS at h; exact h)
theorem joinS_go {K : PySem.W.Frag} {H : Hp} {Q : VK} {a : Str} {p : Addr} {ys : List Str} (h : SqL K H p (ys.map V.str)) (hz : (ys.map (·.length)).sum + ys.length * a.length ≤ 16777216) (q : Q (.str (Txt.join a ys)) H) : rJoinS K (.str a) [.ref p] H Q := by
  unfold rJoinS
  exact ⟨a, p, ys, rfl, rfl, .inl h, hz, q⟩
theorem nameB_iff {z : Str} : nameB z = true ↔ 1 ≤ z.length ∧ z.length ≤ 12 ∧ headC z.cps.toList = true ∧ ∀ c ∈ z.cps.toList, (lowC c || digC c) = true := by
  unfold nameB
  rw [Bool.and_eq_true, Bool.and_eq_true, Bool.and_eq_true, decide_eq_true_iff, decide_eq_true_iff, List.all_eq_true]
  exact ⟨fun h => ⟨h.1.1, h.1.2, h.2.1, h.2.2⟩, fun h => ⟨⟨h.1, h.2.1⟩, h.2.2.1, h.2.2.2⟩⟩
theorem nameB_no {z : Str} (h : ¬ (1 ≤ z.length ∧ z.length ≤ 12 ∧ headC z.cps.toList = true ∧ ∀ c ∈ z.cps.toList, (lowC c || digC c) = true)) : nameB z = false := by
  rw [Bool.eq_false_iff]
  exact fun k => h (nameB_iff.mp k)
theorem head_of {z : Str} {c : Nat} (e : z.cps.toList[0]? = some c) : headC z.cps.toList = lowC c := by
  cases h : z.cps.toList with
  | nil => rw [h] at e; cases e
  | cons d r =>
    rw [h] at e
    cases e
    rfl
theorem tl_join0 : ∀ ys : List Str, (Txt.join Str.empty ys).cps.toList = ys.flatMap (fun y => y.cps.toList)
  | [] => rfl
  | [x] => by rw [TL.join_eq]; exact (List.append_nil _).symm
  | x :: z :: r => by
    have ih := tl_join0 (z :: r)
    rw [TL.join_eq] at ih ⊢
    show ((x ++ Str.empty ++ Str.join Str.empty (z :: r)).cps).toList = _
    have e1 : (x ++ Str.empty ++ Str.join Str.empty (z :: r)).cps.toList = x.cps.toList ++ (Str.join Str.empty (z :: r)).cps.toList := by
      show ((x.cps ++ #[]) ++ (Str.join Str.empty (z :: r)).cps).toList = _
      rw [Array.append_empty, Array.toList_append]
    rw [e1, ih]
    rfl
theorem join_chars (ys : List Nat) : (Txt.join Str.empty (ys.map fun c => (⟨#[c]⟩ : Str))).cps.toList = ys := by
  rw [tl_join0]
  induction ys with
  | nil => rfl
  | cons a r ih =>
    rw [List.map_cons, List.flatMap_cons, ih]
    rfl
theorem join_len (ys : List Nat) : (Txt.join Str.empty (ys.map fun c => (⟨#[c]⟩ : Str))).length = ys.length := by
  have e := join_chars ys
  have : (Txt.join Str.empty (ys.map fun c => (⟨#[c]⟩ : Str))).cps.toList.length = ys.length := by rw [e]
  exact this
theorem join_ok {ys : List Nat} (h : ∀ c ∈ ys, c < 1114112) : okS (Txt.join Str.empty (ys.map fun c => (⟨#[c]⟩ : Str))) = true := okS_of fun c hc => by
  rw [join_chars] at hc
  exact h c hc
theorem sum_ones (ys : List Nat) : ((ys.map fun c => (⟨#[c]⟩ : Str)).map (·.length)).sum = ys.length := by
  induction ys with
  | nil => rfl
  | cons a r ih =>
    rw [List.map_cons, List.map_cons, List.sum_cons, ih]
    show 1 + r.length = r.length + 1
    omega
end LB

namespace My
open PySem PySem.Spec PyProof.Rows L2 LB
local macro_rules | `(tactic| walk_at "sz") => `(tactic| first
  | assumption
  | ((with_reducible apply Sz.mul) <;> walk_at "sz") | ((with_reducible apply Sz.add) <;> walk_at "sz") | ((with_reducible apply Sz.sub) <;> walk_at "sz") | ((with_reducible apply Sz.neg) <;> walk_at "sz")
  | exact Sz.mk (n := 64) (by omega) | exact Sz.mk (n := 201) (by omega) | ((with_reducible apply Sz.div) <;> walk_at "sz") | (with_reducible exact cell_sz (by assumption) _))
local macro_rules | `(tactic| walk_at "cond") => `(tactic| first
  | ((show (0 : Int) < _); first | decide | omega)
  | assumption
  | exact (True.intro : any1 _)
  | exact ty_s
  | ((with_reducible apply ty_l); (walk_at "sq")) | ((with_reducible apply ty_d); (walk_at "hp"))
  | ((with_reducible apply CM.of2) <;> first | walk_at "sz" | decide)
  | ((with_reducible apply CD.of2) <;> first | walk_at "sz" | decide | omega)
  | (with_reducible exact ⟨by decide, by decide, by decide⟩))
local macro_rules | `(tactic| walk_at "len") => `(tactic| first | assumption | exact Nat.lt_of_succ_le (Nat.le_of_ble_eq_true (by rfl)))
local macro_rules | `(tactic| walk_at "hp") => `(tactic| first | assumption | exact upd_same | ((with_reducible apply hp_upd) <;> (walk_at "hp")))
local macro_rules | `(tactic| walk_at "sq0") => `(tactic| first | assumption | exact l_of upd_same | exact t_of upd_same | (apply l_of; (assumption)) | (apply t_of; (assumption)) | walk_at "sqc")
local macro_rules | `(tactic| walk_at "sq1") => `(tactic| first | walk_at "sq0" | (apply lst_upd; (assumption); (walk_at "sq0")) | (apply tup_upd; (assumption); (walk_at "sq0")))
local macro_rules | `(tactic| walk_at "sq2") => `(tactic| first | walk_at "sq0" | (apply lst_upd; (assumption); (walk_at "sq1")) | (apply tup_upd; (assumption); (walk_at "sq1")))
local macro_rules | `(tactic| walk_at "sq3") => `(tactic| first | walk_at "sq0" | (apply lst_upd; (assumption); (walk_at "sq2")) | (apply tup_upd; (assumption); (walk_at "sq2")))
local macro_rules | `(tactic| walk_at "sq4") => `(tactic| first | walk_at "sq0" | (apply lst_upd; (assumption); (walk_at "sq3")) | (apply tup_upd; (assumption); (walk_at "sq3")))
local macro_rules | `(tactic| walk_at "sq5") => `(tactic| first | walk_at "sq0" | (apply lst_upd; (assumption); (walk_at "sq4")) | (apply tup_upd; (assumption); (walk_at "sq4")))
local macro_rules | `(tactic| walk_at "sq6") => `(tactic| first | walk_at "sq0" | (apply lst_upd; (assumption); (walk_at "sq5")) | (apply tup_upd; (assumption); (walk_at "sq5")))
local macro_rules | `(tactic| walk_at "sq7") => `(tactic| first | walk_at "sq0" | (apply lst_upd; (assumption); (walk_at "sq6")) | (apply tup_upd; (assumption); (walk_at "sq6")))
local macro_rules | `(tactic| walk_at "sq8") => `(tactic| first | walk_at "sq0" | (apply lst_upd; (assumption); (walk_at "sq7")) | (apply tup_upd; (assumption); (walk_at "sq7")))
local macro_rules | `(tactic| walk_at "sq") => `(tactic| walk_at "sq8")
local macro_rules | `(tactic| walk_at "rd1") => `(tactic| first
  | refine ⟨_, rfl, ?_⟩
  | refine ⟨_, _, rfl, rfl, ?_⟩
  | refine ⟨rfl, ?_⟩
  | refine .inl ⟨_, rfl, ?_⟩
  | refine .inr ⟨_, rfl, ?_⟩
  | (with_reducible refine tC_go ?_) | (with_reducible refine tNoPart_go ?_)
  | walk_at "call"
  | (apply ixT_go; (walk_at "sq"); (first | assumption | rfl))
  | (apply ixL_go; (walk_at "sq"); (first | assumption | rfl))
  | (apply ixUT_go; (walk_at "sq"); (first | assumption | rfl))
  | (apply ixUL_go; (walk_at "sq"); (first | assumption | rfl))
  | (apply And.intro; (walk_at "cond"))
  | (apply And.intro; (exact Nat.le_of_ble_eq_true (by rfl)); (intro p hp))
  | refine ⟨_, _, _, rfl, (by walk_at "hp"), (by rfl), ?_⟩
  | ((with_reducible apply gTup_go); (walk_at "sq"); (exact rfl))
  | (apply ct_go; (walk_at "hp"); (walk_at "hp"); (first | assumption | exact Nat.le_of_ble_eq_true (by rfl)); (intro p hp))
  | (apply lo_l; (walk_at "sq"); (intro p hp)) | (apply lo_t; (walk_at "sq"); (intro p hp))
  | (apply mn_go) | (apply mx_go) | (apply isB_go) | (apply notB_go)
  | (apply setL_go; (walk_at "hp"); (first | assumption | exact rfl))
  | ((with_reducible apply slL_go); (walk_at "sq"); (intro p hp))
  | (apply inT_go; (walk_at "sq"); (exact rfl); (first | assumption | exact rfl)) | (apply inL_go; (walk_at "sq"); (exact rfl); (first | assumption | exact rfl))
  | (apply niT_go; (walk_at "sq"); (exact rfl); (first | assumption | exact rfl)) | (apply niL_go; (walk_at "sq"); (exact rfl); (first | assumption | exact rfl))
  | (apply app_go; (walk_at "hp"); (walk_at "len"))
  | (apply ln_t; (walk_at "sq")) | (apply ln_l; (walk_at "sq"))
  | (apply iteLen; (with_reducible rfl)) | (apply iteLenN; (with_reducible rfl)) | (apply iteLen; (exact rfl)) | (apply iteLenN; (exact rfl))
  | refine iteT ?_
  | refine iteF ?_
  | (apply isi_go (r := true); (first | exact .base (.int _) | exact .base (.str _) | exact .base (.bl _) | exact .base .non | exact tyx_t (by walk_at "sq") | exact tyx_l (by walk_at "sq")); (decide +kernel))
  | (apply isi_go (r := false); (first | exact .base (.int _) | exact .base (.str _) | exact .base (.bl _) | exact .base .non | exact tyx_t (by walk_at "sq") | exact tyx_l (by walk_at "sq")); (decide +kernel))
  | (apply isX_go; (walk_at "kit"); (walk_at "hp")) | (apply isX_ve; (walk_at "exv"); (walk_at "hp"))
  | (apply gTup_go; (walk_at "sq"); (exact rfl)) | (apply gCons_go) | (apply gNil_go))
local macro_rules | `(tactic| walk_at "rd") => `(tactic| repeat (walk_at "rd1"))

local macro_rules | `(tactic| walk_at "br1") => `(tactic| first
  | refine iteI (fun h => ?_) (fun h => ?_) | refine iteIN (fun h => ?_) (fun h => ?_)
  | refine iteS (fun h => ?_) (fun h => ?_) | refine iteSN (fun h => ?_) (fun h => ?_)
  | refine iteD (fun h => ?_) (fun h => ?_) | refine iteDN (fun h => ?_) (fun h => ?_))
local macro_rules | `(tactic| walk_at "go") => `(tactic| repeat' (first | walk_at "rd1" | walk_at "br1"))
local macro_rules | `(tactic| walk_at "sm0") => `(tactic| first | exact Same.refl _ | assumption)
local macro_rules | `(tactic| walk_at "sm1") => `(tactic| first | walk_at "sm0" | (apply same_new; (walk_at "sm0"); (assumption)) | (refine Same.trans ?_ (by assumption); (walk_at "sm0")))
local macro_rules | `(tactic| walk_at "sm2") => `(tactic| first | walk_at "sm0" | (apply same_new; (walk_at "sm1"); (assumption)) | (refine Same.trans ?_ (by assumption); (walk_at "sm1")))
local macro_rules | `(tactic| walk_at "sm3") => `(tactic| first | walk_at "sm0" | (apply same_new; (walk_at "sm2"); (assumption)) | (refine Same.trans ?_ (by assumption); (walk_at "sm2")))
local macro_rules | `(tactic| walk_at "sm4") => `(tactic| first | walk_at "sm0" | (apply same_new; (walk_at "sm3"); (assumption)) | (refine Same.trans ?_ (by assumption); (walk_at "sm3")))
local macro_rules | `(tactic| walk_at "sm5") => `(tactic| first | walk_at "sm0" | (apply same_new; (walk_at "sm4"); (assumption)) | (refine Same.trans ?_ (by assumption); (walk_at "sm4")))
local macro_rules | `(tactic| walk_at "sm6") => `(tactic| first | walk_at "sm0" | (apply same_new; (walk_at "sm5"); (assumption)) | (refine Same.trans ?_ (by assumption); (walk_at "sm5")))
local macro_rules | `(tactic| walk_at "sm") => `(tactic| walk_at "sm6")

local macro_rules | `(tactic| walk_at "rx") => `(tactic| (dsimp only [tC]; walk_at "rd"))

abbrev P : Program := PySem.Challenge.pw_lendbook_k14_names
def top (i : Nat) : Stmt := PySem.Challenge.pw_lendbook_k14_names.main.body.getD i (.Pass ⟨0, 0, 0, 0⟩)
abbrev s_is_lower : Stmt := top 6
abbrev s_is_digit : Stmt := top 7
abbrev s_is_name : Stmt := top 12
abbrev s_check_name : Stmt := top 13
abbrev s_is_kept : Stmt := top 14
abbrev s__law_cell : Stmt := top 16
abbrev s__law_draw : Stmt := top 17
abbrev s__law_name : Stmt := top 18
abbrev s__law_kept : Stmt := top 19
abbrev s__law_good : Stmt := top 20
abbrev s__law_told : Stmt := top 21
abbrev s_law : Stmt := top 22
theorem sc_is_lower : FnScope ["character"] ["character"] (defScope s_is_lower) := ⟨rfl, rfl, rfl, by decide +kernel, rfl, by decide +kernel, by decide +kernel⟩
theorem sc_is_digit : FnScope ["character"] ["character"] (defScope s_is_digit) := ⟨rfl, rfl, rfl, by decide +kernel, rfl, by decide +kernel, by decide +kernel⟩
theorem sc_is_name : FnScope ["text", "character"] ["text"] (defScope s_is_name) := ⟨rfl, rfl, rfl, by decide +kernel, rfl, by decide +kernel, by decide +kernel⟩
theorem sc_check_name : FnScope ["text"] ["text"] (defScope s_check_name) := ⟨rfl, rfl, rfl, by decide +kernel, rfl, by decide +kernel, by decide +kernel⟩
theorem sc_is_kept : FnScope ["text"] ["text"] (defScope s_is_kept) := ⟨rfl, rfl, rfl, by decide +kernel, rfl, by decide +kernel, by decide +kernel⟩
theorem sc__law_cell : FnScope ["script", "k"] ["script", "k"] (defScope s__law_cell) := ⟨rfl, rfl, rfl, by decide +kernel, rfl, by decide +kernel, by decide +kernel⟩
theorem sc__law_draw : FnScope ["cell", "limits", "row", "rest", "great", "k", "mixed"] ["cell", "limits"] (defScope s__law_draw) := ⟨rfl, rfl, rfl, by decide +kernel, rfl, by decide +kernel, by decide +kernel⟩
theorem sc__law_name : FnScope ["cell", "size", "text", "marks", "k", "mark"] ["cell", "size"] (defScope s__law_name) := ⟨rfl, rfl, rfl, by decide +kernel, rfl, by decide +kernel, by decide +kernel⟩
theorem sc__law_kept : FnScope ["words"] [] (defScope s__law_kept) := ⟨rfl, rfl, rfl, by decide +kernel, rfl, by decide +kernel, by decide +kernel⟩
theorem sc__law_good : FnScope ["text", "small", "k"] ["text"] (defScope s__law_good) := ⟨rfl, rfl, rfl, by decide +kernel, rfl, by decide +kernel, by decide +kernel⟩
theorem sc__law_told : FnScope ["text", "e"] ["text"] (defScope s__law_told) := ⟨rfl, rfl, rfl, by decide +kernel, rfl, by decide +kernel, by decide +kernel⟩
theorem sc_law : FnScope ["script", "size", "text", "at", "chars", "words", "word", "one", "actual", "due", "kept"] ["script"] (defScope s_law) := ⟨rfl, rfl, rfl, by decide +kernel, rfl, by decide +kernel, by decide +kernel⟩
abbrev s_OutOfRange : Stmt := inClass (top 2) 0
abbrev s_UnknownName : Stmt := inClass (top 3) 0
abbrev s_BadName : Stmt := inClass (top 4) 0
def v_PRODUCT_WORDS : List V := [.str "product", .str "payments", .str "annuity", .str "equal", .str "bullet", .str "after", .str "every", .str "months", .str "due", .str "on", .str "following", .str "preceding", .str "modified", .str "rate", .str "plus", .str "from", .str "to", .str "days", .str "round", .str "down", .str "up", .str "near", .str "even", .str "fees", .str "opening", .str "and", .str "period", .str "late", .str "early", .str "within", .str "use", .str "interest", .str "principal", .str "penalty"]
def v_SCRIPT_WORDS : List V := [.str "calendar", .str "closed", .str "holidays", .str "mon", .str "tue", .str "wed", .str "thu", .str "fri", .str "sat", .str "sun", .str "index", .str "open", .str "as", .str "pay", .str "charge", .str "waive", .str "refund", .str "holiday", .str "loss", .str "withdraw", .str "undo", .str "redo", .str "show", .str "plan", .str "settle", .str "balances", .str "statement"]
structure Txt (K : PySem.W.Frag) (mg : Str → Option Value) : Type where
  a_is_lower : Addr
  fd_is_lower : FuncData
  F_is_lower : FunD K "is_lower" "is_lower" (defArgs s_is_lower) (defBody s_is_lower) (defScope s_is_lower) [] [] a_is_lower fd_is_lower
  m_is_lower : mg "is_lower" = some (.ref a_is_lower)
  b_is_lower : Binds K fd_is_lower ["character"] []
  a_is_digit : Addr
  fd_is_digit : FuncData
  F_is_digit : FunD K "is_digit" "is_digit" (defArgs s_is_digit) (defBody s_is_digit) (defScope s_is_digit) [] [] a_is_digit fd_is_digit
  m_is_digit : mg "is_digit" = some (.ref a_is_digit)
  b_is_digit : Binds K fd_is_digit ["character"] []
  a_is_name : Addr
  fd_is_name : FuncData
  F_is_name : FunD K "is_name" "is_name" (defArgs s_is_name) (defBody s_is_name) (defScope s_is_name) [] [] a_is_name fd_is_name
  m_is_name : mg "is_name" = some (.ref a_is_name)
  b_is_name : Binds K fd_is_name ["text"] []
  a_check_name : Addr
  fd_check_name : FuncData
  F_check_name : FunD K "check_name" "check_name" (defArgs s_check_name) (defBody s_check_name) (defScope s_check_name) [] [] a_check_name fd_check_name
  m_check_name : mg "check_name" = some (.ref a_check_name)
  b_check_name : Binds K fd_check_name ["text"] []
  a_is_kept : Addr
  fd_is_kept : FuncData
  F_is_kept : FunD K "is_kept" "is_kept" (defArgs s_is_kept) (defBody s_is_kept) (defScope s_is_kept) [] [] a_is_kept fd_is_kept
  m_is_kept : mg "is_kept" = some (.ref a_is_kept)
  b_is_kept : Binds K fd_is_kept ["text"] []
  a__law_cell : Addr
  fd__law_cell : FuncData
  F__law_cell : FunD K "_law_cell" "_law_cell" (defArgs s__law_cell) (defBody s__law_cell) (defScope s__law_cell) [] [] a__law_cell fd__law_cell
  m__law_cell : mg "_law_cell" = some (.ref a__law_cell)
  b__law_cell : Binds K fd__law_cell ["script", "k"] []
  a__law_draw : Addr
  fd__law_draw : FuncData
  F__law_draw : FunD K "_law_draw" "_law_draw" (defArgs s__law_draw) (defBody s__law_draw) (defScope s__law_draw) [] [] a__law_draw fd__law_draw
  m__law_draw : mg "_law_draw" = some (.ref a__law_draw)
  b__law_draw : Binds K fd__law_draw ["cell", "limits"] []
  a__law_name : Addr
  fd__law_name : FuncData
  F__law_name : FunD K "_law_name" "_law_name" (defArgs s__law_name) (defBody s__law_name) (defScope s__law_name) [] [] a__law_name fd__law_name
  m__law_name : mg "_law_name" = some (.ref a__law_name)
  b__law_name : Binds K fd__law_name ["cell", "size"] []
  a__law_kept : Addr
  fd__law_kept : FuncData
  F__law_kept : FunD K "_law_kept" "_law_kept" (defArgs s__law_kept) (defBody s__law_kept) (defScope s__law_kept) [] [] a__law_kept fd__law_kept
  m__law_kept : mg "_law_kept" = some (.ref a__law_kept)
  b__law_kept : Binds K fd__law_kept [] []
  a__law_good : Addr
  fd__law_good : FuncData
  F__law_good : FunD K "_law_good" "_law_good" (defArgs s__law_good) (defBody s__law_good) (defScope s__law_good) [] [] a__law_good fd__law_good
  m__law_good : mg "_law_good" = some (.ref a__law_good)
  b__law_good : Binds K fd__law_good ["text"] []
  a__law_told : Addr
  fd__law_told : FuncData
  F__law_told : FunD K "_law_told" "_law_told" (defArgs s__law_told) (defBody s__law_told) (defScope s__law_told) [] [] a__law_told fd__law_told
  m__law_told : mg "_law_told" = some (.ref a__law_told)
  b__law_told : Binds K fd__law_told ["text"] []
  a_law : Addr
  fd_law : FuncData
  F_law : FunD K "law" "law" (defArgs s_law) (defBody s_law) (defScope s_law) [] [] a_law fd_law
  m_law : mg "law" = some (.ref a_law)
  b_law : Binds K fd_law ["script"] []
  c_BookError : Addr
  m_BookError : mg "BookError" = some (.ref c_BookError)
  e_BookError : ECls K c_BookError
  c_OutOfRange : Addr
  m_OutOfRange : mg "OutOfRange" = some (.ref c_OutOfRange)
  e_OutOfRange : ECls K c_OutOfRange
  x_OutOfRange : XTxt P K mg "OutOfRange.__init__" s_OutOfRange c_OutOfRange
  n_OutOfRange_label : PySem.W.findIn K (.ref c_OutOfRange) "label" = some none
  n_OutOfRange_value : PySem.W.findIn K (.ref c_OutOfRange) "value" = some none
  c_UnknownName : Addr
  m_UnknownName : mg "UnknownName" = some (.ref c_UnknownName)
  e_UnknownName : ECls K c_UnknownName
  x_UnknownName : XTxt P K mg "UnknownName.__init__" s_UnknownName c_UnknownName
  n_UnknownName_label : PySem.W.findIn K (.ref c_UnknownName) "label" = some none
  n_UnknownName_name : PySem.W.findIn K (.ref c_UnknownName) "name" = some none
  c_BadName : Addr
  m_BadName : mg "BadName" = some (.ref c_BadName)
  e_BadName : ECls K c_BadName
  x_BadName : XTxt P K mg "BadName.__init__" s_BadName c_BadName
  n_BadName_label : PySem.W.findIn K (.ref c_BadName) "label" = some none
  n_BadName_name : PySem.W.findIn K (.ref c_BadName) "name" = some none
  y_BookError_BookError : PySem.W.subIn K (.ref c_BookError) (.ref c_BookError) = some true
  y_BookError_OutOfRange : PySem.W.subIn K (.ref c_BookError) (.ref c_OutOfRange) = some false
  y_BookError_UnknownName : PySem.W.subIn K (.ref c_BookError) (.ref c_UnknownName) = some false
  y_BookError_BadName : PySem.W.subIn K (.ref c_BookError) (.ref c_BadName) = some false
  yv_BookError : PySem.W.subIn K (.ref c_BookError) (.type "ValueError") = some true
  y_OutOfRange_BookError : PySem.W.subIn K (.ref c_OutOfRange) (.ref c_BookError) = some true
  y_OutOfRange_OutOfRange : PySem.W.subIn K (.ref c_OutOfRange) (.ref c_OutOfRange) = some true
  y_OutOfRange_UnknownName : PySem.W.subIn K (.ref c_OutOfRange) (.ref c_UnknownName) = some false
  y_OutOfRange_BadName : PySem.W.subIn K (.ref c_OutOfRange) (.ref c_BadName) = some false
  yv_OutOfRange : PySem.W.subIn K (.ref c_OutOfRange) (.type "ValueError") = some true
  y_UnknownName_BookError : PySem.W.subIn K (.ref c_UnknownName) (.ref c_BookError) = some true
  y_UnknownName_OutOfRange : PySem.W.subIn K (.ref c_UnknownName) (.ref c_OutOfRange) = some false
  y_UnknownName_UnknownName : PySem.W.subIn K (.ref c_UnknownName) (.ref c_UnknownName) = some true
  y_UnknownName_BadName : PySem.W.subIn K (.ref c_UnknownName) (.ref c_BadName) = some false
  yv_UnknownName : PySem.W.subIn K (.ref c_UnknownName) (.type "ValueError") = some true
  y_BadName_BookError : PySem.W.subIn K (.ref c_BadName) (.ref c_BookError) = some true
  y_BadName_OutOfRange : PySem.W.subIn K (.ref c_BadName) (.ref c_OutOfRange) = some false
  y_BadName_UnknownName : PySem.W.subIn K (.ref c_BadName) (.ref c_UnknownName) = some false
  y_BadName_BadName : PySem.W.subIn K (.ref c_BadName) (.ref c_BadName) = some true
  yv_BadName : PySem.W.subIn K (.ref c_BadName) (.type "ValueError") = some true
  m_NAME_LENGTH : ∃ t, mg "NAME_LENGTH" = some (.int 12 t)
  q_PRODUCT_WORDS : Addr
  m_PRODUCT_WORDS : mg "PRODUCT_WORDS" = some (.ref q_PRODUCT_WORDS)
  t_PRODUCT_WORDS : ∀ H : Hp, SqT K H q_PRODUCT_WORDS v_PRODUCT_WORDS
  q_SCRIPT_WORDS : Addr
  m_SCRIPT_WORDS : mg "SCRIPT_WORDS" = some (.ref q_SCRIPT_WORDS)
  t_SCRIPT_WORDS : ∀ H : Hp, SqT K H q_SCRIPT_WORDS v_SCRIPT_WORDS
  z_len : mg "len" = none
  z_abs : mg "abs" = none
  z_range : mg "range" = none
  z_int : mg "int" = none
  z_isinstance : mg "isinstance" = none
  z_bool : mg "bool" = none
section
variable {w : World} {K : PySem.W.Frag} {mg : Str → Option Value} {base : Heap}
theorem kit_BookError_BookError (T : Txt K mg) : PySem.W.kitOne K (.ref T.c_BookError) (.ref T.c_BookError) = some true := T.e_BookError.kit T.y_BookError_BookError
theorem exm_BookError_BookError (T : Txt K mg) : PySem.W.exmOne K (.ref T.c_BookError) (.ref T.c_BookError) = some true := T.e_BookError.exm T.y_BookError_BookError
theorem kit_BookError_OutOfRange (T : Txt K mg) : PySem.W.kitOne K (.ref T.c_BookError) (.ref T.c_OutOfRange) = some false := T.e_OutOfRange.kit T.y_BookError_OutOfRange
theorem exm_BookError_OutOfRange (T : Txt K mg) : PySem.W.exmOne K (.ref T.c_BookError) (.ref T.c_OutOfRange) = some false := T.e_OutOfRange.exm T.y_BookError_OutOfRange
theorem kit_BookError_UnknownName (T : Txt K mg) : PySem.W.kitOne K (.ref T.c_BookError) (.ref T.c_UnknownName) = some false := T.e_UnknownName.kit T.y_BookError_UnknownName
theorem exm_BookError_UnknownName (T : Txt K mg) : PySem.W.exmOne K (.ref T.c_BookError) (.ref T.c_UnknownName) = some false := T.e_UnknownName.exm T.y_BookError_UnknownName
theorem kit_BookError_BadName (T : Txt K mg) : PySem.W.kitOne K (.ref T.c_BookError) (.ref T.c_BadName) = some false := T.e_BadName.kit T.y_BookError_BadName
theorem exm_BookError_BadName (T : Txt K mg) : PySem.W.exmOne K (.ref T.c_BookError) (.ref T.c_BadName) = some false := T.e_BadName.exm T.y_BookError_BadName
theorem kit_OutOfRange_BookError (T : Txt K mg) : PySem.W.kitOne K (.ref T.c_OutOfRange) (.ref T.c_BookError) = some true := T.e_BookError.kit T.y_OutOfRange_BookError
theorem exm_OutOfRange_BookError (T : Txt K mg) : PySem.W.exmOne K (.ref T.c_OutOfRange) (.ref T.c_BookError) = some true := T.e_BookError.exm T.y_OutOfRange_BookError
theorem kit_OutOfRange_OutOfRange (T : Txt K mg) : PySem.W.kitOne K (.ref T.c_OutOfRange) (.ref T.c_OutOfRange) = some true := T.e_OutOfRange.kit T.y_OutOfRange_OutOfRange
theorem exm_OutOfRange_OutOfRange (T : Txt K mg) : PySem.W.exmOne K (.ref T.c_OutOfRange) (.ref T.c_OutOfRange) = some true := T.e_OutOfRange.exm T.y_OutOfRange_OutOfRange
theorem kit_OutOfRange_UnknownName (T : Txt K mg) : PySem.W.kitOne K (.ref T.c_OutOfRange) (.ref T.c_UnknownName) = some false := T.e_UnknownName.kit T.y_OutOfRange_UnknownName
theorem exm_OutOfRange_UnknownName (T : Txt K mg) : PySem.W.exmOne K (.ref T.c_OutOfRange) (.ref T.c_UnknownName) = some false := T.e_UnknownName.exm T.y_OutOfRange_UnknownName
theorem kit_OutOfRange_BadName (T : Txt K mg) : PySem.W.kitOne K (.ref T.c_OutOfRange) (.ref T.c_BadName) = some false := T.e_BadName.kit T.y_OutOfRange_BadName
theorem exm_OutOfRange_BadName (T : Txt K mg) : PySem.W.exmOne K (.ref T.c_OutOfRange) (.ref T.c_BadName) = some false := T.e_BadName.exm T.y_OutOfRange_BadName
theorem kit_UnknownName_BookError (T : Txt K mg) : PySem.W.kitOne K (.ref T.c_UnknownName) (.ref T.c_BookError) = some true := T.e_BookError.kit T.y_UnknownName_BookError
theorem exm_UnknownName_BookError (T : Txt K mg) : PySem.W.exmOne K (.ref T.c_UnknownName) (.ref T.c_BookError) = some true := T.e_BookError.exm T.y_UnknownName_BookError
theorem kit_UnknownName_OutOfRange (T : Txt K mg) : PySem.W.kitOne K (.ref T.c_UnknownName) (.ref T.c_OutOfRange) = some false := T.e_OutOfRange.kit T.y_UnknownName_OutOfRange
theorem exm_UnknownName_OutOfRange (T : Txt K mg) : PySem.W.exmOne K (.ref T.c_UnknownName) (.ref T.c_OutOfRange) = some false := T.e_OutOfRange.exm T.y_UnknownName_OutOfRange
theorem kit_UnknownName_UnknownName (T : Txt K mg) : PySem.W.kitOne K (.ref T.c_UnknownName) (.ref T.c_UnknownName) = some true := T.e_UnknownName.kit T.y_UnknownName_UnknownName
theorem exm_UnknownName_UnknownName (T : Txt K mg) : PySem.W.exmOne K (.ref T.c_UnknownName) (.ref T.c_UnknownName) = some true := T.e_UnknownName.exm T.y_UnknownName_UnknownName
theorem kit_UnknownName_BadName (T : Txt K mg) : PySem.W.kitOne K (.ref T.c_UnknownName) (.ref T.c_BadName) = some false := T.e_BadName.kit T.y_UnknownName_BadName
theorem exm_UnknownName_BadName (T : Txt K mg) : PySem.W.exmOne K (.ref T.c_UnknownName) (.ref T.c_BadName) = some false := T.e_BadName.exm T.y_UnknownName_BadName
theorem kit_BadName_BookError (T : Txt K mg) : PySem.W.kitOne K (.ref T.c_BadName) (.ref T.c_BookError) = some true := T.e_BookError.kit T.y_BadName_BookError
theorem exm_BadName_BookError (T : Txt K mg) : PySem.W.exmOne K (.ref T.c_BadName) (.ref T.c_BookError) = some true := T.e_BookError.exm T.y_BadName_BookError
theorem kit_BadName_OutOfRange (T : Txt K mg) : PySem.W.kitOne K (.ref T.c_BadName) (.ref T.c_OutOfRange) = some false := T.e_OutOfRange.kit T.y_BadName_OutOfRange
theorem exm_BadName_OutOfRange (T : Txt K mg) : PySem.W.exmOne K (.ref T.c_BadName) (.ref T.c_OutOfRange) = some false := T.e_OutOfRange.exm T.y_BadName_OutOfRange
theorem kit_BadName_UnknownName (T : Txt K mg) : PySem.W.kitOne K (.ref T.c_BadName) (.ref T.c_UnknownName) = some false := T.e_UnknownName.kit T.y_BadName_UnknownName
theorem exm_BadName_UnknownName (T : Txt K mg) : PySem.W.exmOne K (.ref T.c_BadName) (.ref T.c_UnknownName) = some false := T.e_UnknownName.exm T.y_BadName_UnknownName
theorem kit_BadName_BadName (T : Txt K mg) : PySem.W.kitOne K (.ref T.c_BadName) (.ref T.c_BadName) = some true := T.e_BadName.kit T.y_BadName_BadName
theorem exm_BadName_BadName (T : Txt K mg) : PySem.W.exmOne K (.ref T.c_BadName) (.ref T.c_BadName) = some true := T.e_BadName.exm T.y_BadName_BadName
local macro_rules | `(tactic| walk_at "kit") => `(tactic| first | exact kit_BookError_BookError (by assumption) | exact kit_BookError_OutOfRange (by assumption) | exact kit_BookError_UnknownName (by assumption) | exact kit_BookError_BadName (by assumption) | exact kit_OutOfRange_BookError (by assumption) | exact kit_OutOfRange_OutOfRange (by assumption) | exact kit_OutOfRange_UnknownName (by assumption) | exact kit_OutOfRange_BadName (by assumption) | exact kit_UnknownName_BookError (by assumption) | exact kit_UnknownName_OutOfRange (by assumption) | exact kit_UnknownName_UnknownName (by assumption) | exact kit_UnknownName_BadName (by assumption) | exact kit_BadName_BookError (by assumption) | exact kit_BadName_OutOfRange (by assumption) | exact kit_BadName_UnknownName (by assumption) | exact kit_BadName_BadName (by assumption))
local macro_rules | `(tactic| walk_at "exm") => `(tactic| first | exact exm_BookError_BookError (by assumption) | exact exm_BookError_OutOfRange (by assumption) | exact exm_BookError_UnknownName (by assumption) | exact exm_BookError_BadName (by assumption) | exact exm_OutOfRange_BookError (by assumption) | exact exm_OutOfRange_OutOfRange (by assumption) | exact exm_OutOfRange_UnknownName (by assumption) | exact exm_OutOfRange_BadName (by assumption) | exact exm_UnknownName_BookError (by assumption) | exact exm_UnknownName_OutOfRange (by assumption) | exact exm_UnknownName_UnknownName (by assumption) | exact exm_UnknownName_BadName (by assumption) | exact exm_BadName_BookError (by assumption) | exact exm_BadName_OutOfRange (by assumption) | exact exm_BadName_UnknownName (by assumption) | exact exm_BadName_BadName (by assumption))
local macro_rules | `(tactic| walk_at "exv") => `(tactic| first | exact Txt.yv_BookError (by assumption) | exact Txt.yv_OutOfRange (by assumption) | exact Txt.yv_UnknownName (by assumption) | exact Txt.yv_BadName (by assumption))
def f_OutOfRange : List V → List (Str × V) := fs1 "OutOfRange" "value"
theorem okx_OutOfRange (T : Txt K mg) : ExcOk P w K mg base T.c_OutOfRange any1 f_OutOfRange 1 := by
  refine T.x_OutOfRange.ok (N := ["self", "value", "__class__"]) (ps := ["value"]) rfl rfl (NdefX.nscope_by (by decide +kernel)) rfl rfl (fun _ _ _ _ _ us hl => match us, hl with | [_, _], _ => rfl) (fun _ _ _ _ => rfl) (fun _ _ _ _ => rfl) (fun _ _ _ _ => rfl) (fun _ _ _ _ => ⟨_, rfl⟩) fun X cc cda fI L hK hN hE hO => ?_
  obtain ⟨_, _, _, _, _, _, _, _, _, _, _, _, _, _, _, _, _⟩ := X
  dsimp only at hK hN hE
  subst hK hN hE
  refine ⟨_, _, pa_cons pe_str pa_nil, pss_cons (ps_ost (pv 0) pe_str) (pss_one (ps_ost (pv 0) (pv 1))), fun a xs H Q hl ea hc q => ?_⟩
  obtain ⟨v, rfl⟩ : ∃ v, xs = [v] := match xs, hl with | [v], _ => ⟨v, rfl⟩
  exact ⟨(by show 1 ≤ 1000; decide), ea, two_stores hO T.n_OutOfRange_label T.n_OutOfRange_value ea (fun _ _ k => k) (fun _ _ k => ⟨_, rfl, k⟩) (fun _ _ k => ⟨_, rfl, k⟩) (fun _ _ k => ⟨_, rfl, k⟩) (fun d H' h1 h2 h3 h4 h5 => q d H' h1 h2 h3 h4 h5)⟩
def f_UnknownName : List V → List (Str × V) := fs1 "UnknownName" "name"
theorem okx_UnknownName (T : Txt K mg) : ExcOk P w K mg base T.c_UnknownName text1 f_UnknownName 1 := by
  refine T.x_UnknownName.ok (N := ["self", "name", "__class__"]) (ps := ["name"]) rfl rfl (NdefX.nscope_by (by decide +kernel)) rfl rfl (fun _ _ _ _ _ us hl => match us, hl with | [_, _], _ => rfl) (fun _ _ _ _ => rfl) (fun _ _ _ _ => rfl) (fun _ _ _ _ => rfl) (fun _ _ _ _ => ⟨_, rfl⟩) fun X cc cda fI L hK hN hE hO => ?_
  obtain ⟨_, _, _, _, _, _, _, _, _, _, _, _, _, _, _, _, _⟩ := X
  dsimp only at hK hN hE
  subst hK hN hE
  refine ⟨_, _, pa_cons (pe_joined (.cons pe_str (.cons (pe_fmt (pv 1)) .nil))) pa_nil, pss_cons (ps_ost (pv 0) pe_str) (pss_one (ps_ost (pv 0) (pv 1))), fun a xs H Q hl ea hc q => ?_⟩
  obtain ⟨v, rfl⟩ : ∃ v, xs = [v] := match xs, hl with | [v], _ => ⟨v, rfl⟩
  obtain ⟨z, ez, hz⟩ := hc
  cases ez
  have tl := text_len "unknown name: " z (by decide +kernel) hz
  exact ⟨_, rfl, tl.1, _, rfl, .inl ⟨z, rfl, Nat.le_trans hz (by decide), ⟨z, rfl, tl.2, (by show 1 ≤ 1000; decide), ea, two_stores hO T.n_UnknownName_label T.n_UnknownName_name ea (fun _ _ k => k) (fun _ _ k => ⟨_, rfl, k⟩) (fun _ _ k => ⟨_, rfl, k⟩) (fun _ _ k => ⟨_, rfl, k⟩) (fun d H' h1 h2 h3 h4 h5 => q d H' h1 h2 h3 h4 h5)⟩⟩⟩
def f_BadName : List V → List (Str × V) := fs1 "BadName" "name"
theorem okx_BadName (T : Txt K mg) : ExcOk P w K mg base T.c_BadName text1 f_BadName 1 := by
  refine T.x_BadName.ok (N := ["self", "name", "__class__"]) (ps := ["name"]) rfl rfl (NdefX.nscope_by (by decide +kernel)) rfl rfl (fun _ _ _ _ _ us hl => match us, hl with | [_, _], _ => rfl) (fun _ _ _ _ => rfl) (fun _ _ _ _ => rfl) (fun _ _ _ _ => rfl) (fun _ _ _ _ => ⟨_, rfl⟩) fun X cc cda fI L hK hN hE hO => ?_
  obtain ⟨_, _, _, _, _, _, _, _, _, _, _, _, _, _, _, _, _⟩ := X
  dsimp only at hK hN hE
  subst hK hN hE
  refine ⟨_, _, pa_cons (pe_joined (.cons pe_str (.cons (pe_fmt (pv 1)) .nil))) pa_nil, pss_cons (ps_ost (pv 0) pe_str) (pss_one (ps_ost (pv 0) (pv 1))), fun a xs H Q hl ea hc q => ?_⟩
  obtain ⟨v, rfl⟩ : ∃ v, xs = [v] := match xs, hl with | [v], _ => ⟨v, rfl⟩
  obtain ⟨z, ez, hz⟩ := hc
  cases ez
  have tl := text_len "not a name: " z (by decide +kernel) hz
  exact ⟨_, rfl, tl.1, _, rfl, .inl ⟨z, rfl, Nat.le_trans hz (by decide), ⟨z, rfl, tl.2, (by show 1 ≤ 1000; decide), ea, two_stores hO T.n_BadName_label T.n_BadName_name ea (fun _ _ k => k) (fun _ _ k => ⟨_, rfl, k⟩) (fun _ _ k => ⟨_, rfl, k⟩) (fun _ _ k => ⟨_, rfl, k⟩) (fun d H' h1 h2 h3 h4 h5 => q d H' h1 h2 h3 h4 h5)⟩⟩⟩
local macro_rules | `(tactic| walk_at "sqc") => `(tactic| first | exact Txt.t_PRODUCT_WORDS (by assumption) _ | exact Txt.t_SCRIPT_WORDS (by assumption) _)
local macro_rules | `(tactic| walk_at "sl") => `(tactic| first | assumption | (simp only [len_app]; rw [sizeLine_eq]; omega) | (rw [sizeLine_eq]; omega) | (rw [sizeLine_eq]; exact Nat.le_of_ble_eq_true (by rfl)))
local macro_rules | `(tactic| walk_at "call") => `(tactic| first | (apply lenS_go; (walk_at "sl")) | (apply leS_go) | (apply inC_go) | (apply niC_go) | (apply slS_go; (walk_at "sl")) | (apply addS_go; (walk_at "sl")) | (apply ixS_go; (walk_at "sl"); (assumption)))

/-! ### _law_draw -/
/-- the size of a number -/
def ab (c : Int) : Int := if c < 0 then -c else c
theorem ab_nn (c : Int) : 0 ≤ ab c := by unfold ab; split <;> omega
/-- the rest before the i-th limit -/
def dRest (c : Int) (ls : List Int) : Nat → Int
  | 0 => ab c
  | i + 1 => if 1000000000000000000 ≤ ab c ∧ ls.getD i 0 ≤ dRest c ls i then dRest c ls i / ls.getD i 0 else dRest c ls i
def dMix (c : Int) (i : Nat) : Int := ((ab c * 48271 + (0 + (i : Int) + 1) * 69621) % 2147483647 * 16807 + (0 + (i : Int) + 1) * 40692) % 2147483399
/-- the i-th number drawn -/
def dVal (c : Int) (ls : List Int) (i : Nat) : Int :=
  if 1000000000000000000 ≤ ab c ∧ ls.getD i 0 ≤ dRest c ls i then dRest c ls i % ls.getD i 0 else dMix c i % ls.getD i 0
def draw (c : Int) (ls : List Int) : List Int := (List.range ls.length).map (dVal c ls)
theorem dVal_nn (c : Int) (ls : List Int) (i : Nat) (h : 0 < ls.getD i 0) : 0 ≤ dVal c ls i ∧ dVal c ls i < ls.getD i 0 := by
  unfold dVal
  by_cases hh : 1000000000000000000 ≤ ab c ∧ ls.getD i 0 ≤ dRest c ls i
  · rw [if_pos hh]
    exact ⟨Int.emod_nonneg _ (by omega), Int.emod_lt_of_pos _ h⟩
  · rw [if_neg hh]
    exact ⟨Int.emod_nonneg _ (by omega), Int.emod_lt_of_pos _ h⟩
theorem dRest_sz {c : Int} (ls : List Int) (h : Sz 1048576 c) : ∀ i, Sz 1048576 (dRest c ls i)
  | 0 => h.absv
  | i + 1 => by
    unfold dRest
    by_cases hh : 1000000000000000000 ≤ ab c ∧ ls.getD i 0 ≤ dRest c ls i
    · rw [if_pos hh]; exact (dRest_sz ls h i).div
    · rw [if_neg hh]; exact dRest_sz ls h i
theorem dRest_nn (c : Int) (ls : List Int) (h : ∀ z ∈ ls, 0 < z) : ∀ i, 0 ≤ dRest c ls i
  | 0 => ab_nn c
  | i + 1 => by
    have ih := dRest_nn c ls h i
    unfold dRest
    by_cases hh : 1000000000000000000 ≤ ab c ∧ ls.getD i 0 ≤ dRest c ls i
    · rw [if_pos hh, List.getD_eq_getElem?_getD]
      cases e : ls[i]? with
      | none => simp
      | some z => exact Int.ediv_nonneg ih (Int.le_of_lt (h z (List.mem_of_getElem? e)))
    · rw [if_neg hh]; exact ih
@[irreducible] def sp__law_draw (K : PySem.W.Frag) : Sp := fun vs H Q _ => ∃ (c : Int) (p : Addr) (ls : List Int), vs = [.int c, .ref p] ∧ SqL K H p (ls.map V.int) ∧ Sz 1048576 c ∧ (∀ z ∈ ls, 0 < z ∧ Sz 64 z) ∧ ls.length ≤ 1000 ∧
  ∀ r H', Same H H' → H r = none → H' r = some (.lst ((draw c ls).map V.int)) → Q (.ref r) H'
theorem ok__law_draw (T : Txt K mg) : FnOk P w K mg base (L2.CX P w) 1 T.a__law_draw T.fd__law_draw ["cell", "limits"] (sp__law_draw K) := by
  refine T.F__law_draw.ok sc__law_draw (fun vs H Q E h => ?_) (fun cdv A outer s H vs Q E hr h => ?_)
  · unfold sp__law_draw at h
    obtain ⟨c, p, ls, rfl, _⟩ := h
    rfl
  · unfold sp__law_draw at h
    obtain ⟨c, p, ls, rfl, hp, hc, hl, hn, q⟩ := h
    refine ⟨_, (pss_cons (ps_set (i := 2) sc__law_draw.nd rfl (Or.inl rfl) (pe_lst pa_nil))
    (pss_cons (ps_set (i := 3) sc__law_draw.nd rfl (Or.inl rfl) (pe_callB call_abs rfl T.z_abs bt_abs (pa_cons (pv 0) pa_nil)))
    (pss_cons (ps_set (i := 4) sc__law_draw.nd rfl (Or.inl rfl) (pe_cmpR op_ge (pv 3) pe_int (nomark _)))
    (pss_cons (ps_for (passes_of rfl) rfl (pi_range1 rfl T.z_range (pa_cons (pe_callB call_ln rfl T.z_len bt_len (pa_cons (pv 1) pa_nil)) pa_nil)) (pg_name (i := 5) sc__law_draw.nd rfl (Or.inl rfl))
      (pss_one (ps_if (PW.pt (pw_and (pt_val (pv 4)) (pw_and1 (pt_cmpR op_ge (pv 3) (pe_ix ix_list (pv 1) (pv 5) (fun _ _ => rfl)) (nomark _))))) (pss_cons (ps_expr (pe_bm PySem.F.plainAttrs_list PySem.F.slot_list_append PySem.F.type_list_append mt_app (pv 2) (pa_cons (pe_op op_mod (pe_callTy call_int1 rfl T.z_int bt_int (pa_cons (pv 3) pa_nil)) (pe_ix ix_list (pv 1) (pv 5) (fun _ _ => rfl))) pa_nil)))
        (pss_one (ps_set (i := 3) sc__law_draw.nd rfl (Or.inl rfl) (pe_op op_fdivB (pv 3) (pe_ix ix_list (pv 1) (pv 5) (fun _ _ => rfl)))))) (pss_cons (ps_set (i := 6) sc__law_draw.nd rfl (Or.inl rfl) (pe_op op_mod (pe_callTy call_int1 rfl T.z_int bt_int (pa_cons (pe_op op_add (pe_op op_mulB (pe_callB call_abs rfl T.z_abs bt_abs (pa_cons (pv 0) pa_nil)) pe_int) (pe_op op_mulB (pe_op op_add (pv 5) pe_int) pe_int)) pa_nil)) pe_int))
        (pss_cons (ps_set (i := 6) sc__law_draw.nd rfl (Or.inl rfl) (pe_op op_mod (pe_callTy call_int1 rfl T.z_int bt_int (pa_cons (pe_op op_add (pe_op op_mulB (pv 6) pe_int) (pe_op op_mulB (pe_op op_add (pv 5) pe_int) pe_int)) pa_nil)) pe_int))
        (pss_one (ps_expr (pe_bm PySem.F.plainAttrs_list PySem.F.slot_list_append PySem.F.type_list_append mt_app (pv 2) (pa_cons (pe_op op_mod (pe_callTy call_int1 rfl T.z_int bt_int (pa_cons (pv 6) pa_nil)) (pe_ix ix_list (pv 1) (pv 5) (fun _ _ => rfl))) pa_nil)))))))))
    (pss_one (ps_ret (pv 2))))))), ?_⟩
    walk_at "rd"
    rename_i r nr
    rw [map_len]
    have hpos : ∀ i, i < ls.length → 0 < ls.getD i 0 ∧ Sz 64 (ls.getD i 0) := fun i hi => by
      rw [List.getD_eq_getElem?_getD, List.getElem?_eq_getElem hi]
      exact hl _ (List.getElem_mem hi)
    refine ⟨by omega, by omega, for_range (n := ls.length) (fun i σ H' => ∃ k m : Option V, σ = [some (.int c), some (.ref p), some (.ref r), some (.int (dRest c ls i)), some (.bl (decide (1000000000000000000 ≤ ab c))), k, m] ∧ Same H H' ∧ H' r = some (.lst (((List.range i).map (dVal c ls)).map V.int)))
      ⟨none, none, rfl, same_new (Same.refl H) nr, upd_same⟩ ?_ ?_⟩
    · rintro i σ H' hi ⟨k, m, rfl, s1, e1⟩
      have hp' := same_lst s1 hp
      have hx := hpos i hi
      have hle : i < 1000 := by omega
      have hzr := dRest_sz ls hc i
      have hab : Sz 1048576 (if c < 0 then -c else c) := hc.absv
      have hmi : Sz 64 (dMix c i) := ⟨by unfold dMix; omega⟩
      walk_at "rd"
      have hlen : (((List.range i).map (dVal c ls)).map V.int).length < sizeLine := by
        rw [List.length_map, List.length_map, List.length_range, sizeLine_eq]
        omega
      have hi62 : Sz 12 (0 + (i : Int)) := ⟨by omega⟩
      have fin : ∀ (y ρ : Int) (k' m' : Option V), dVal c ls i = y → dRest c ls (i + 1) = ρ → ∃ k'' m'' : Option V, [some (V.int c), some (.ref p), some (.ref r), some (.int ρ), some (.bl (decide (1000000000000000000 ≤ ab c))), k', m'] = [some (.int c), some (.ref p), some (.ref r), some (.int (dRest c ls (i + 1))), some (.bl (decide (1000000000000000000 ≤ ab c))), k'', m''] ∧ Same H (upd H' r (.lst (((List.range i).map (dVal c ls)).map V.int ++ [.int y]))) ∧ upd H' r (.lst (((List.range i).map (dVal c ls)).map V.int ++ [.int y])) r = some (.lst (((List.range (i + 1)).map (dVal c ls)).map V.int)) := fun y ρ k' m' e1 e2 =>
        ⟨k', m', by rw [e2], same_set s1 nr, by rw [upd_same, range_snoc e1]⟩
      have hix : atI (ls.map V.int) (0 + ((i : Nat) : Int)) = some (V.int (ls.getD i 0)) := atI_map hi
      have hx1 := hx.1
      have hx2 := hx.2
      refine iteD (fun hg => ?_) (fun hg => ?_)
      · walk_at "rd"
        refine iteD (fun hge => ?_) (fun hge => ?_)
        · have a1 : dVal c ls i = dRest c ls i % ls.getD i 0 := if_pos ⟨hg, hge⟩
          have a2 : dRest c ls (i + 1) = dRest c ls i / ls.getD i 0 := if_pos ⟨hg, hge⟩
          have cd := CD.of (i := dRest c ls i) hx.1 hx.2
          have hp'' := same_lst (same_set (o := .lst (((List.range i).map (dVal c ls)).map V.int ++ [.int (dRest c ls i % ls.getD i 0)])) s1 nr) hp
          walk_at "rd"
          exact fin _ _ _ _ a1 a2
        · have a1 : dVal c ls i = dMix c i % ls.getD i 0 := if_neg fun z => hge z.2
          have a2 : dRest c ls (i + 1) = dRest c ls i := if_neg fun z => hge z.2
          walk_at "rd"
          exact fin _ _ _ _ a1 a2
      · have a1 : dVal c ls i = dMix c i % ls.getD i 0 := if_neg fun z => hg z.1
        have a2 : dRest c ls (i + 1) = dRest c ls i := if_neg fun z => hg z.1
        walk_at "rd"
        exact fin _ _ _ _ a1 a2
    · rintro σ H' ⟨k, m, rfl, s1, e1⟩
      walk_at "rd"
      exact q r H' s1 nr e1
theorem draw_go {H : Hp} {Q : VK} {E : XK} {c : Int} {p : Addr} {ls : List Int} (hp : SqL K H p (ls.map V.int)) (hc : Sz 1048576 c) (hl : ∀ z ∈ ls, 0 < z ∧ Sz 64 z) (hn : ls.length ≤ 1000)
    (q : ∀ r H', Same H H' → H r = none → H' r = some (.lst ((draw c ls).map V.int)) → Q (.ref r) H') : sp__law_draw K [.int c, .ref p] H Q E := by
  unfold sp__law_draw
  exact ⟨c, p, ls, rfl, hp, hc, hl, hn, q⟩

/-! ### _law_name -/
def alpha : List Nat := [97, 98, 99, 100, 101, 102, 103, 104, 105, 106, 107, 108, 109, 110, 111, 112, 113, 114, 115, 116, 117, 118, 119, 120, 121, 122, 48, 49, 50, 51, 52, 53, 54, 55, 56, 57]
def numV : V → Int
  | .int i => i
  | _ => 0
@[irreducible] def sp__law_name : Sp := fun vs H Q E => ∃ (c : Int) (n : Int), vs = [.int c, .int n] ∧ (1 ≤ n) ∧ (n ≤ 13) ∧ (Sz 1048576 c) ∧ (∀ z H', z.length = n.toNat → okS z = true → Same H H' → Q (.str z) H')
theorem ok__law_name (T : Txt K mg) : FnOk P w K mg base (L2.CX P w) 3 T.a__law_name T.fd__law_name ["cell", "size"] sp__law_name := by
  refine T.F__law_name.ok sc__law_name (fun vs H Q E h => ?_) (fun cdv A outer s H vs Q E hr h => ?_)
  · unfold sp__law_name at h
    obtain ⟨c, n, rfl, _⟩ := h
    rfl
  · unfold sp__law_name at h
    obtain ⟨c, n, rfl, n0, n1, hc, q⟩ := h
    refine ⟨_, (pss_cons (ps_set (i := 2) sc__law_name.nd rfl (Or.inr rfl) pe_str)
    (pss_cons (ps_set (i := 3) sc__law_name.nd rfl (Or.inl rfl) (pe_callS (ok__law_draw T) (hr.mono (by decide)) rfl T.m__law_draw T.F__law_draw.kp T.b__law_draw (fun σ => passAt (takes_of rfl rfl rfl rfl) σ) (pa_cons (pv 0) (pa_cons (pe_op op_ct (pe_lst (pa_cons pe_int pa_nil)) (pe_lc (own := [("k", 4)]) (tt := tYes) rfl sc__law_name.nd (pi_range1 rfl T.z_range (pa_cons (pe_op op_sub (pv 1) pe_int) pa_nil)) (blkOk_by (own := [("k", 4)]) (N := ["cell", "size", "text", "marks", "k", "mark"]) (sc := defScope s__law_name) (by decide +kernel)) (fun _ _ _ _ _ => (pg_name (i := 4) sc__law_name.nd rfl (Or.inl rfl))) (fun _ _ _ _ _ => pts_nil) (fun _ _ _ _ _ => pe_int))) pa_nil))))
    (pss_one (ps_ret (pe_m1 PySem.F.slot_str_join PySem.F.type_str_join mt_joinS pe_str (pe_lc (own := [("mark", 5)]) (tt := tYes) rfl sc__law_name.nd (pi_list (pv 3)) (blkOk_by (own := [("mark", 5)]) (N := ["cell", "size", "text", "marks", "k", "mark"]) (sc := defScope s__law_name) (by decide +kernel)) (fun _ _ _ _ _ => (pg_name (i := 5) sc__law_name.nd rfl (Or.inl rfl))) (fun _ _ _ _ _ => pts_nil) (fun _ _ _ _ _ => (pe_ix ix_ss (pv 2) (pv 5) (fun _ _ => rfl))))))))), ?_⟩
    walk_at "rd"
    rename_i p hp
    refine ⟨by omega, by omega, fun W hW => lc_rgm (n := (n - 1).toNat) (fun _ => .int 36) hW (by rw [sizeLine_eq]; omega) (fun i H2 N acc hi s2 e2 hl k => ?_) fun H2 s2 e2 => ?_⟩
    · walk_at "rd"
      exact ⟨acc, e2, hl, k _ (same_set s2 hW) upd_same⟩
    rw [range_rep] at e2
    refine ct_go (s2 _ _ upd_same) e2 (by rw [List.length_map, List.length_replicate, sizeLine_eq]; show 1 + _ ≤ _; omega) fun r hr => ?_
    have sr := same_new (o := .lst ([V.int 26] ++ (List.replicate (n - 1).toNat 36).map V.int)) ((same_new (o := .lst [.int 26]) (Same.refl H) hp).trans s2) hr
    have Lr : SqL K (upd H2 r (.lst ([V.int 26] ++ (List.replicate (n - 1).toNat 36).map V.int))) r ((26 :: List.replicate (n - 1).toNat 36).map V.int) := l_of upd_same
    generalize upd H2 r (.lst ([V.int 26] ++ (List.replicate (n - 1).toNat 36).map V.int)) = H3 at *
    walk_at "rd"
    have hpos : ∀ z ∈ (26 :: List.replicate (n - 1).toNat 36 : List Int), 0 < z ∧ z ≤ 36 := fun z hz => by
      rw [List.mem_cons, List.mem_replicate] at hz
      omega
    refine draw_go (ls := 26 :: List.replicate (n - 1).toNat 36) Lr hc (fun z hz => ⟨(hpos z hz).1, ⟨by have := hpos z hz; omega⟩⟩) (by rw [List.length_cons, List.length_replicate]; omega) fun D H4 s4 hD e4 => ?_
    have hlen : (draw c (26 :: List.replicate (n - 1).toNat 36)).length = n.toNat := by
      unfold draw
      rw [List.length_map, List.length_range, List.length_cons, List.length_replicate]
      omega
    have hm : ∀ z ∈ draw c (26 :: List.replicate (n - 1).toNat 36), 0 ≤ z ∧ z < 36 := fun z hz => by
      unfold draw at hz
      obtain ⟨i, hi, rfl⟩ := List.mem_map.mp hz
      rw [List.mem_range] at hi
      have hg : (26 :: List.replicate (n - 1).toNat 36 : List Int).getD i 0 ∈ (26 :: List.replicate (n - 1).toNat 36 : List Int) := by
        rw [List.getD_eq_getElem?_getD, List.getElem?_eq_getElem hi]
        exact List.getElem_mem hi
      have h1 := hpos _ hg
      have h2 := dVal_nn c (26 :: List.replicate (n - 1).toNat 36) i h1.1
      omega
    generalize draw c (26 :: List.replicate (n - 1).toNat 36) = ms at *
    walk_at "rd"
    refine ⟨⟨_, rfl⟩, ?_⟩
    walk_at "rd"
    refine ⟨⟨_, l_of e4⟩, fun W2 hW2 => ?_⟩
    have ea : ("abcdefghijklmnopqrstuvwxyz0123456789" : Str).cps.toList = alpha := by decide +kernel
    refine lc_mp (xs := ms.map V.int) (fun x => .str ⟨#[alpha.getD (numV x).toNat 0]⟩) hW2 (l_of e4) (by rw [List.length_map, hlen, sizeLine_eq]; omega) (fun i x H5 N acc hx s5 e5 hl k => ?_) fun H5 s5 e5 => ?_
    · rw [List.getElem?_map] at hx
      cases hz : ms[i]? with
      | none => rw [hz] at hx; cases hx
      | some z =>
        rw [hz] at hx
        cases hx
        have hzm := hm z (List.mem_of_getElem? hz)
        walk_at "rd"
        refine ixS_go (by rw [sizeLine_eq]; exact Nat.le_of_ble_eq_true (by rfl)) (c := alpha.getD z.toNat 0) ?_ ?_
        · rw [ea]
          obtain ⟨m, rfl⟩ : ∃ m : Nat, z = m := ⟨z.toNat, by omega⟩
          refine atI_nat ?_
          rw [Int.toNat_natCast, List.getD_eq_getElem?_getD, List.getElem?_eq_getElem (show m < alpha.length by show m < 36; omega)]
          rfl
        · exact ⟨acc, e5, hl, k _ (same_set s5 hW2) upd_same⟩
    walk_at "rd"
    have e6 : (ms.map V.int).map (fun x => V.str ⟨#[alpha.getD (numV x).toNat 0]⟩) = ((ms.map fun z => alpha.getD z.toNat 0).map fun c => (⟨#[c]⟩ : Str)).map V.str := by
      rw [List.map_map, List.map_map, List.map_map]
      rfl
    rw [e6] at e5
    refine joinS_go (l_of e5) (by rw [sum_ones, List.length_map, List.length_map, hlen]; show n.toNat + n.toNat * 0 ≤ _; omega) ?_
    refine q _ _ (by rw [show ("" : Str) = Str.empty from rfl, join_len, List.length_map, hlen]) ?_ ((sr.trans s4).trans s5)
    refine join_ok fun c hc => ?_
    obtain ⟨z, hz, rfl⟩ := List.mem_map.mp hc
    have hzm := hm z hz
    have : ∀ m : Nat, m < 36 → alpha.getD m 0 < 1114112 := by decide +kernel
    exact this z.toNat (by omega)
theorem _law_name_go {H : Hp} {Q : VK} {E : XK} {c : Int} {n : Int} (n0 : 1 ≤ n) (n1 : n ≤ 13) (hc : Sz 1048576 c) (q : ∀ z H', z.length = n.toNat → okS z = true → Same H H' → Q (.str z) H') : sp__law_name [.int c, .int n] H Q E := by
  unfold sp__law_name
  exact ⟨c, n, rfl, n0, n1, hc, q⟩
local macro_rules | `(tactic| walk_at "call") => `(tactic| (apply _law_name_go; (first | assumption | omega); (first | assumption | omega); (first | assumption | omega)))

/-! ### _law_kept -/
@[irreducible] def sp__law_kept (K : PySem.W.Frag) : Sp := fun vs H Q E => vs = [] ∧ (∀ r H', Same H H' → SqL K H' r (v_PRODUCT_WORDS ++ v_SCRIPT_WORDS) → Q (.ref r) H')
theorem ok__law_kept (T : Txt K mg) : FnOk P w K mg base (L2.CX P w) 1 T.a__law_kept T.fd__law_kept [] (sp__law_kept K) := by
  refine T.F__law_kept.ok sc__law_kept (fun vs H Q E h => ?_) (fun cdv A outer s H vs Q E hr h => ?_)
  · unfold sp__law_kept at h
    obtain ⟨rfl, _⟩ := h
    rfl
  · unfold sp__law_kept at h
    obtain ⟨rfl, q⟩ := h
    refine ⟨_, (pss_cons (ps_set (i := 0) sc__law_kept.nd rfl (Or.inl rfl) (pe_lst (pa_cons pe_str (pa_cons pe_str (pa_cons pe_str (pa_cons pe_str (pa_cons pe_str (pa_cons pe_str (pa_cons pe_str (pa_cons pe_str (pa_cons pe_str (pa_cons pe_str (pa_cons pe_str pa_nil)))))))))))))
    (pss_cons (ps_set (i := 0) sc__law_kept.nd rfl (Or.inl rfl) (pe_op op_ct (pv 0) (pe_lst (pa_cons pe_str (pa_cons pe_str (pa_cons pe_str (pa_cons pe_str (pa_cons pe_str (pa_cons pe_str (pa_cons pe_str (pa_cons pe_str (pa_cons pe_str (pa_cons pe_str (pa_cons pe_str (pa_cons pe_str pa_nil)))))))))))))))
    (pss_cons (ps_set (i := 0) sc__law_kept.nd rfl (Or.inl rfl) (pe_op op_ct (pv 0) (pe_lst (pa_cons pe_str (pa_cons pe_str (pa_cons pe_str (pa_cons pe_str (pa_cons pe_str (pa_cons pe_str (pa_cons pe_str (pa_cons pe_str (pa_cons pe_str (pa_cons pe_str pa_nil)))))))))))))
    (pss_cons (ps_set (i := 0) sc__law_kept.nd rfl (Or.inl rfl) (pe_op op_ct (pv 0) (pe_lst (pa_cons pe_str (pa_cons pe_str (pa_cons pe_str (pa_cons pe_str (pa_cons pe_str (pa_cons pe_str (pa_cons pe_str (pa_cons pe_str (pa_cons pe_str (pa_cons pe_str (pa_cons pe_str pa_nil))))))))))))))
    (pss_cons (ps_set (i := 0) sc__law_kept.nd rfl (Or.inl rfl) (pe_op op_ct (pv 0) (pe_lst (pa_cons pe_str (pa_cons pe_str (pa_cons pe_str (pa_cons pe_str (pa_cons pe_str (pa_cons pe_str (pa_cons pe_str (pa_cons pe_str (pa_cons pe_str (pa_cons pe_str (pa_cons pe_str pa_nil))))))))))))))
    (pss_one (ps_ret (pe_op op_ct (pv 0) (pe_lst (pa_cons pe_str (pa_cons pe_str (pa_cons pe_str (pa_cons pe_str (pa_cons pe_str (pa_cons pe_str pa_nil))))))))))))))), ?_⟩
    walk_at "rd"
    exact q _ _ (by repeat (first | exact Same.refl _ | refine same_new ?_ (by assumption))) (l_of upd_same)
theorem _law_kept_go {H : Hp} {Q : VK} {E : XK}  (q : ∀ r H', Same H H' → SqL K H' r (v_PRODUCT_WORDS ++ v_SCRIPT_WORDS) → Q (.ref r) H') : sp__law_kept K [] H Q E := by
  unfold sp__law_kept
  exact ⟨rfl, q⟩
local macro_rules | `(tactic| walk_at "call") => `(tactic| (apply _law_kept_go))

/-! ### _law_cell -/
@[irreducible] def sp__law_cell (K : PySem.W.Frag) : Sp := fun vs H Q _ => ∃ (l : Addr) (ns : List Int) (j : Nat), vs = [.ref l, .int (j : Nat)] ∧ SqL K H l (ns.map V.int) ∧ ns.length ≤ 63 ∧ j < 64 ∧ Q (.int (cell ns j)) H
theorem ok__law_cell (T : Txt K mg) : FnOk P w K mg base (L2.CX P w) 1 T.a__law_cell T.fd__law_cell ["script", "k"] (sp__law_cell K) := by
  refine T.F__law_cell.ok sc__law_cell (fun vs H Q E h => ?_) (fun cdv A outer s H vs Q E hr h => ?_)
  · unfold sp__law_cell at h
    obtain ⟨l, ns, j, rfl, _⟩ := h
    rfl
  · unfold sp__law_cell at h
    obtain ⟨l, ns, j, rfl, hs, hn, hj, q⟩ := h
    refine ⟨_, (pss_cons (ps_if (pt_cmpR op_lt (pv 1) (pe_callB call_ln rfl T.z_len bt_len (pa_cons (pv 0) pa_nil)) (nomark _)) (pss_one (ps_ret (pe_ix ix_seq (pv 0) (pv 1) (fun _ _ => rfl)))) pss_nil)
    (pss_one (ps_ret pe_int))), ?_⟩
    refine ⟨_, rfl, _, rfl, ln_l hs ⟨_, _, rfl, rfl, _, rfl, ?_⟩⟩
    rw [List.length_map]
    refine ite2 (fun h => ?_) (fun h => ?_)
    · have h' : j < ns.length := by have := of_decide_eq_true h; omega
      refine ⟨_, rfl, _, rfl, .inl ⟨l, _, _, .int (cell ns j), rfl, rfl, hs, ?_, q⟩⟩
      exact atI_map_cell h'
    · have h' : ns.length ≤ j := by
        refine Nat.le_of_not_lt fun z => h (decide_eq_true ?_)
        omega
      have e : cell ns j = 0 := by unfold cell; rw [List.getD_eq_getElem?_getD, List.getElem?_eq_none h']; rfl
      rw [e] at q
      exact q
theorem cell_go {H : Hp} {Q : VK} {E : XK} {l : Addr} {ns : List Int} (j : Nat) (hs : SqL K H l (ns.map V.int)) (hn : ns.length ≤ 63) (hj : j < 64) (q : Q (.int (cell ns j)) H) : sp__law_cell K [.ref l, .int (j : Nat)] H Q E := by
  unfold sp__law_cell
  exact ⟨l, ns, j, rfl, hs, hn, hj, q⟩
theorem cell_at {H : Hp} {Q : VK} {E : XK} {l : Addr} {ns : List Int} {x : Int} (j : Nat) (hs : SqL K H l (ns.map V.int)) (hn : ns.length ≤ 63) (hj : j < 64) (ex : x = (j : Nat)) (q : Q (.int (cell ns j)) H) : sp__law_cell K [.ref l, .int x] H Q E := by
  subst ex
  exact cell_go j hs hn hj q
local macro_rules | `(tactic| walk_at "call") => `(tactic| first | (apply cell_go 0; (walk_at "sq"); assumption; decide) | (apply cell_go 1; (walk_at "sq"); assumption; decide) | (apply cell_go 2; (walk_at "sq"); assumption; decide) | (apply cell_go 3; (walk_at "sq"); assumption; decide) | (apply cell_go 4; (walk_at "sq"); assumption; decide) | (apply cell_go 5; (walk_at "sq"); assumption; decide) | (apply cell_go 6; (walk_at "sq"); assumption; decide) | (apply cell_go 7; (walk_at "sq"); assumption; decide) | (apply cell_go 8; (walk_at "sq"); assumption; decide) | (apply cell_go 9; (walk_at "sq"); assumption; decide) | (apply cell_go 10; (walk_at "sq"); assumption; decide) | (apply cell_go 11; (walk_at "sq"); assumption; decide) | (apply cell_go 12; (walk_at "sq"); assumption; decide) | (apply cell_go 13; (walk_at "sq"); assumption; decide))

/-! ### is_lower -/
@[irreducible] def sp_is_lower : Sp := fun vs H Q E => ∃ (c : Nat), vs = [.str ⟨#[c]⟩] ∧ (Q (.bl (lowC c)) H)
theorem ok_is_lower (T : Txt K mg) : FnOk P w K mg base (L2.CX P w) 1 T.a_is_lower T.fd_is_lower ["character"] sp_is_lower := by
  refine T.F_is_lower.ok sc_is_lower (fun vs H Q E h => ?_) (fun cdv A outer s H vs Q E hr h => ?_)
  · unfold sp_is_lower at h
    obtain ⟨c, rfl, _⟩ := h
    rfl
  · unfold sp_is_lower at h
    obtain ⟨c, rfl, q⟩ := h
    refine ⟨_, (pss_one (ps_ret (pe_chain op_leS op_leS pe_str (pv 0) pe_str))), ?_⟩
    have e1 : ("a" : Str).cps.toList = [97] := by decide +kernel
    have e2 : ("z" : Str).cps.toList = [122] := by decide +kernel
    have e3 : (⟨#[c]⟩ : Str).cps.toList = [c] := rfl
    walk_at "rd"
    rw [e1, e3]
    refine iteDN (fun h => ?_) (fun h => ?_)
    · rw [lt_one] at h
      walk_at "rd"
      rw [e2, e3]
      refine q_bl q ?_
      unfold lowC
      rw [decide_eq_true (show 97 ≤ c by omega), Bool.true_and]
      by_cases k : c ≤ 122
      · rw [decide_eq_true k, decide_eq_false (by rw [lt_one]; omega)]; rfl
      · rw [decide_eq_false k, decide_eq_true (by rw [lt_one]; omega)]; rfl
    · rw [lt_one] at h
      refine q_bl q ?_
      unfold lowC
      rw [decide_eq_false (show ¬ 97 ≤ c by omega), Bool.false_and]
theorem is_lower_go {H : Hp} {Q : VK} {E : XK} {c : Nat} (q : Q (.bl (lowC c)) H) : sp_is_lower [.str ⟨#[c]⟩] H Q E := by
  unfold sp_is_lower
  exact ⟨c, rfl, q⟩
local macro_rules | `(tactic| walk_at "call") => `(tactic| (apply is_lower_go))

/-! ### is_digit -/
@[irreducible] def sp_is_digit : Sp := fun vs H Q E => ∃ (c : Nat), vs = [.str ⟨#[c]⟩] ∧ (Q (.bl (digC c)) H)
theorem ok_is_digit (T : Txt K mg) : FnOk P w K mg base (L2.CX P w) 1 T.a_is_digit T.fd_is_digit ["character"] sp_is_digit := by
  refine T.F_is_digit.ok sc_is_digit (fun vs H Q E h => ?_) (fun cdv A outer s H vs Q E hr h => ?_)
  · unfold sp_is_digit at h
    obtain ⟨c, rfl, _⟩ := h
    rfl
  · unfold sp_is_digit at h
    obtain ⟨c, rfl, q⟩ := h
    refine ⟨_, (pss_one (ps_ret (pe_chain op_leS op_leS pe_str (pv 0) pe_str))), ?_⟩
    have e1 : ("0" : Str).cps.toList = [48] := by decide +kernel
    have e2 : ("9" : Str).cps.toList = [57] := by decide +kernel
    have e3 : (⟨#[c]⟩ : Str).cps.toList = [c] := rfl
    walk_at "rd"
    rw [e1, e3]
    refine iteDN (fun h => ?_) (fun h => ?_)
    · rw [lt_one] at h
      walk_at "rd"
      rw [e2, e3]
      refine q_bl q ?_
      unfold digC
      rw [decide_eq_true (show 48 ≤ c by omega), Bool.true_and]
      by_cases k : c ≤ 57
      · rw [decide_eq_true k, decide_eq_false (by rw [lt_one]; omega)]; rfl
      · rw [decide_eq_false k, decide_eq_true (by rw [lt_one]; omega)]; rfl
    · rw [lt_one] at h
      refine q_bl q ?_
      unfold digC
      rw [decide_eq_false (show ¬ 48 ≤ c by omega), Bool.false_and]
theorem is_digit_go {H : Hp} {Q : VK} {E : XK} {c : Nat} (q : Q (.bl (digC c)) H) : sp_is_digit [.str ⟨#[c]⟩] H Q E := by
  unfold sp_is_digit
  exact ⟨c, rfl, q⟩
local macro_rules | `(tactic| walk_at "call") => `(tactic| (apply is_digit_go))

/-! ### is_name -/
@[irreducible] def sp_is_name : Sp := fun vs H Q E => ∃ (z : Str), vs = [.str z] ∧ (z.length ≤ 1000000) ∧ (Q (.bl (nameB z)) H)
theorem ok_is_name (T : Txt K mg) : FnOk P w K mg base (L2.CX P w) 2 T.a_is_name T.fd_is_name ["text"] sp_is_name := by
  refine T.F_is_name.ok sc_is_name (fun vs H Q E h => ?_) (fun cdv A outer s H vs Q E hr h => ?_)
  · unfold sp_is_name at h
    obtain ⟨z, rfl, _⟩ := h
    rfl
  · unfold sp_is_name at h
    obtain ⟨z, rfl, hz, q⟩ := h
    refine ⟨_, (pss_cons (ps_if (PW.pt (pw_or (pt_cmpR op_lt (pe_callB call_lenS rfl T.z_len bt_len (pa_cons (pv 0) pa_nil)) pe_int (nomark _)) (pw_or1 (pt_cmpR op_gt (pe_callB call_lenS rfl T.z_len bt_len (pa_cons (pv 0) pa_nil)) (pe_glob (v := .int 12) rfl T.m_NAME_LENGTH.choose_spec ⟨_, rfl⟩) (nomark _))))) (pss_one (ps_ret pe_bl)) pss_nil)
    (pss_cons (ps_if (pt_not (pt_val (pe_callS (ok_is_lower T) (hr.mono (by decide)) rfl T.m_is_lower T.F_is_lower.kp T.b_is_lower (fun σ => passAt (takes_of rfl rfl rfl rfl) σ) (pa_cons (pe_ix ix_ss (pv 0) pe_int (fun _ _ => rfl)) pa_nil)))) (pss_one (ps_ret pe_bl)) pss_nil)
    (pss_cons (ps_for (passes_of rfl) rfl (pi_str (pv 0)) (pg_name (i := 1) sc_is_name.nd rfl (Or.inl rfl))
      (pss_one (ps_if (PW.pt (pw_and (pt_not (pt_val (pe_callS (ok_is_lower T) (hr.mono (by decide)) rfl T.m_is_lower T.F_is_lower.kp T.b_is_lower (fun σ => passAt (takes_of rfl rfl rfl rfl) σ) (pa_cons (pv 1) pa_nil)))) (pw_and1 (pt_not (pt_val (pe_callS (ok_is_digit T) (hr.mono (by decide)) rfl T.m_is_digit T.F_is_digit.kp T.b_is_digit (fun σ => passAt (takes_of rfl rfl rfl rfl) σ) (pa_cons (pv 1) pa_nil))))))) (pss_one (ps_ret pe_bl)) pss_nil)))
    (pss_one (ps_ret pe_bl))))), ?_⟩
    walk_at "rd"
    refine iteD (fun c => ?_) (fun c => ?_)
    · walk_at "rd"
      exact q_bl q (nameB_no (by omega))
    walk_at "rd"
    refine iteD (fun c2 => ?_) (fun c2 => ?_)
    · walk_at "rd"
      exact q_bl q (nameB_no (by omega))
    obtain ⟨a, a1, a2, a3⟩ := atI_txt (z := z) (i := 0) 0 (by omega) rfl
    walk_at "rd"
    refine iteBN (fun c3 => ?_) (fun c3 => ?_)
    · walk_at "rd"
      refine q_bl q (nameB_no fun h => ?_)
      rw [head_of a1, c3] at h
      exact Bool.false_ne_true h.2.2.1
    walk_at "rd"
    refine for_txt (z := z) (fun i σ H' => Wall (H' = H ∧ ∃ u, σ = [some (.str z), u] ∧ ∀ j, j < i → ∀ c, z.cps.toList[j]? = some c → (lowC c || digC c) = true)) (wall ⟨rfl, _, rfl, fun j h => absurd h (Nat.not_lt_zero j)⟩) ?_ ?_
    · rintro i c σ H' hc ⟨w1⟩
      obtain ⟨rfl, u, rfl, hb⟩ := w1 trivial
      have step : (lowC c || digC c) = true → ∀ j, j < i + 1 → ∀ d, z.cps.toList[j]? = some d → (lowC d || digC d) = true := fun g j hj d hd => by
        by_cases e : j = i
        · subst e
          rw [hc] at hd
          cases hd
          exact g
        · exact hb j (by omega) d hd
      walk_at "rd"
      refine iteBN (fun c4 => ?_) (fun c4 => ?_)
      · walk_at "rd"
        refine iteBN (fun c5 => ?_) (fun c5 => ?_)
        · walk_at "rd"
          refine q_bl q (nameB_no fun h => ?_)
          have := h.2.2.2 c (List.mem_of_getElem? hc)
          rw [c4, c5] at this
          exact Bool.false_ne_true this
        · exact wall ⟨rfl, _, rfl, step (by rw [c5, Bool.or_true])⟩
      · exact wall ⟨rfl, _, rfl, step (by rw [c4, Bool.true_or])⟩
    · rintro σ H' ⟨w1⟩
      obtain ⟨rfl, u, rfl, hb⟩ := w1 trivial
      walk_at "rd"
      refine q_bl q (nameB_iff.mpr ⟨by omega, by omega, by rw [head_of a1]; exact c3, fun c hc => ?_⟩)
      obtain ⟨i, hi, e⟩ := List.mem_iff_getElem.mp hc
      exact hb i hi c (by rw [List.getElem?_eq_getElem hi, e])
theorem is_name_go {H : Hp} {Q : VK} {E : XK} {z : Str} (hz : z.length ≤ 1000000) (q : Q (.bl (nameB z)) H) : sp_is_name [.str z] H Q E := by
  unfold sp_is_name
  exact ⟨z, rfl, hz, q⟩
local macro_rules | `(tactic| walk_at "call") => `(tactic| (apply is_name_go; (first | assumption | omega)))

/-! ### _law_good -/
@[irreducible] def sp__law_good : Sp := fun vs H Q E => ∃ (z : Str), vs = [.str z] ∧ (z.length ≤ 1000000) ∧ (Q (.bl (nameB z)) H)
theorem ok__law_good (T : Txt K mg) : FnOk P w K mg base (L2.CX P w) 1 T.a__law_good T.fd__law_good ["text"] sp__law_good := by
  refine T.F__law_good.ok sc__law_good (fun vs H Q E h => ?_) (fun cdv A outer s H vs Q E hr h => ?_)
  · unfold sp__law_good at h
    obtain ⟨z, rfl, _⟩ := h
    rfl
  · unfold sp__law_good at h
    obtain ⟨z, rfl, hz, q⟩ := h
    refine ⟨_, (pss_cons (ps_set (i := 1) sc__law_good.nd rfl (Or.inl rfl) pe_str)
    (pss_cons (ps_if (PW.pt (pw_or (pt_cmpR op_lt (pe_callB call_lenS rfl T.z_len bt_len (pa_cons (pv 0) pa_nil)) pe_int (nomark _)) (pw_or (pt_cmpR op_gt (pe_callB call_lenS rfl T.z_len bt_len (pa_cons (pv 0) pa_nil)) pe_int (nomark _)) (pw_or1 (pt_cmpR op_niC (pe_ix ix_ss (pv 0) pe_int (fun _ _ => rfl)) (pv 1) (by rfl)))))) (pss_one (ps_ret pe_bl)) pss_nil)
    (pss_cons (ps_for (passes_of rfl) rfl (pi_range1 rfl T.z_range (pa_cons (pe_callB call_lenS rfl T.z_len bt_len (pa_cons (pv 0) pa_nil)) pa_nil)) (pg_name (i := 2) sc__law_good.nd rfl (Or.inl rfl))
      (pss_one (ps_if (PW.pt (pw_and (pt_cmpR op_niC (pe_ix ix_ss (pv 0) (pv 2) (fun _ _ => rfl)) (pv 1) (by rfl)) (pw_and1 (pt_cmpR op_niC (pe_ix ix_ss (pv 0) (pv 2) (fun _ _ => rfl)) pe_str (by rfl))))) (pss_one (ps_ret pe_bl)) pss_nil)))
    (pss_one (ps_ret pe_bl))))), ?_⟩
    walk_at "rd"
    refine iteD (fun c => ?_) (fun c => ?_)
    · walk_at "rd"
      exact q_bl q (nameB_no (by omega))
    walk_at "rd"
    refine iteD (fun c2 => ?_) (fun c2 => ?_)
    · walk_at "rd"
      exact q_bl q (nameB_no (by omega))
    obtain ⟨a, a1, a2, a3⟩ := atI_txt (z := z) (i := 0) 0 (by omega) rfl
    walk_at "rd"
    rw [in_low]
    refine iteBN (fun c3 => ?_) (fun c3 => ?_)
    · walk_at "rd"
      refine q_bl q (nameB_no fun h => ?_)
      rw [head_of a1, c3] at h
      exact Bool.false_ne_true h.2.2.1
    walk_at "rd"
    refine ⟨by omega, by omega, for_range (n := z.length) (fun i σ H' => Wall (H' = H ∧ ∃ u, σ = [some (.str z), some (.str "abcdefghijklmnopqrstuvwxyz"), u] ∧ ∀ j, j < i → ∀ c, z.cps.toList[j]? = some c → (lowC c || digC c) = true)) (wall ⟨rfl, _, rfl, fun j h => absurd h (Nat.not_lt_zero j)⟩) ?_ ?_⟩
    · rintro i σ H' hi ⟨w1⟩
      obtain ⟨rfl, u, rfl, hb⟩ := w1 trivial
      obtain ⟨c, hc, hcm, hc3⟩ := atI_txt (z := z) (i := 0 + (i : Int)) i hi (by omega)
      have step : (lowC c || digC c) = true → ∀ j, j < i + 1 → ∀ d, z.cps.toList[j]? = some d → (lowC d || digC d) = true := fun g j hj d hd => by
        by_cases e : j = i
        · subst e
          rw [hc] at hd
          cases hd
          exact g
        · exact hb j (by omega) d hd
      walk_at "rd"
      rw [in_low]
      refine iteBN (fun c4 => ?_) (fun c4 => ?_)
      · walk_at "rd"
        rw [in_dig]
        refine iteBN (fun c5 => ?_) (fun c5 => ?_)
        · walk_at "rd"
          refine q_bl q (nameB_no fun h => ?_)
          have := h.2.2.2 c hcm
          rw [c4, c5] at this
          exact Bool.false_ne_true this
        · exact wall ⟨rfl, _, rfl, step (by rw [c5, Bool.or_true])⟩
      · exact wall ⟨rfl, _, rfl, step (by rw [c4, Bool.true_or])⟩
    · rintro σ H' ⟨w1⟩
      obtain ⟨rfl, u, rfl, hb⟩ := w1 trivial
      walk_at "rd"
      refine q_bl q (nameB_iff.mpr ⟨by omega, by omega, by rw [head_of a1]; exact c3, fun c hc => ?_⟩)
      obtain ⟨i, hi, e⟩ := List.mem_iff_getElem.mp hc
      exact hb i hi c (by rw [List.getElem?_eq_getElem hi, e])
theorem _law_good_go {H : Hp} {Q : VK} {E : XK} {z : Str} (hz : z.length ≤ 1000000) (q : Q (.bl (nameB z)) H) : sp__law_good [.str z] H Q E := by
  unfold sp__law_good
  exact ⟨z, rfl, hz, q⟩
local macro_rules | `(tactic| walk_at "call") => `(tactic| (apply _law_good_go; (first | assumption | omega)))

/-! ### is_kept -/
@[irreducible] def sp_is_kept : Sp := fun vs H Q E => ∃ (z : Str), vs = [.str z] ∧ (Q (.bl (inV (.str z) (v_PRODUCT_WORDS ++ v_SCRIPT_WORDS))) H)
theorem ok_is_kept (T : Txt K mg) : FnOk P w K mg base (L2.CX P w) 1 T.a_is_kept T.fd_is_kept ["text"] sp_is_kept := by
  refine T.F_is_kept.ok sc_is_kept (fun vs H Q E h => ?_) (fun cdv A outer s H vs Q E hr h => ?_)
  · unfold sp_is_kept at h
    obtain ⟨z, rfl, _⟩ := h
    rfl
  · unfold sp_is_kept at h
    obtain ⟨z, rfl, q⟩ := h
    refine ⟨_, (pss_one (ps_ret (pe_or (pe_cmpR op_inS (pv 0) (pe_glob (v := .ref T.q_PRODUCT_WORDS) rfl T.m_PRODUCT_WORDS rfl) (by rfl)) (pe_one (pe_cmpR op_inS (pv 0) (pe_glob (v := .ref T.q_SCRIPT_WORDS) rfl T.m_SCRIPT_WORDS rfl) (by rfl)))))), ?_⟩
    have e : inV (.str z) (v_PRODUCT_WORDS ++ v_SCRIPT_WORDS) = (inV (.str z) v_PRODUCT_WORDS || inV (.str z) v_SCRIPT_WORDS) := List.any_append
    rw [e] at q
    walk_at "rd"
    refine iteB (fun c => ?_) (fun c => ?_)
    · rw [c] at q
      exact q
    · rw [c] at q
      walk_at "rd"
      exact q
theorem is_kept_go {H : Hp} {Q : VK} {E : XK} {z : Str} (q : Q (.bl (inV (.str z) (v_PRODUCT_WORDS ++ v_SCRIPT_WORDS))) H) : sp_is_kept [.str z] H Q E := by
  unfold sp_is_kept
  exact ⟨z, rfl, q⟩
local macro_rules | `(tactic| walk_at "call") => `(tactic| (apply is_kept_go))

/-! ### check_name -/
@[irreducible] def sp_check_name (T : Txt K mg) : Sp := fun vs H Q E => ∃ (z : Str), vs = [.str z] ∧ (z.length ≤ 1000000) ∧ (nameB z = false → ∀ d, H d = none → E (.ref T.c_BadName) (some d) (upd H d (.xd (f_BadName [.str z])))) ∧ (nameB z = true → Q (.str z) H)
theorem ok_check_name (T : Txt K mg) : FnOk P w K mg base (L2.CX P w) 3 T.a_check_name T.fd_check_name ["text"] (sp_check_name T) := by
  refine T.F_check_name.ok sc_check_name (fun vs H Q E h => ?_) (fun cdv A outer s H vs Q E hr h => ?_)
  · unfold sp_check_name at h
    obtain ⟨z, rfl, _⟩ := h
    rfl
  · unfold sp_check_name at h
    obtain ⟨z, rfl, hz, e, q⟩ := h
    refine ⟨_, (pss_cons (ps_if (pt_not (pt_val (pe_callS (ok_is_name T) (hr.mono (by decide)) rfl T.m_is_name T.F_is_name.kp T.b_is_name (fun σ => passAt (takes_of rfl rfl rfl rfl) σ) (pa_cons (pv 0) pa_nil)))) (pss_one (ps_raiseX rfl (takes_of rfl rfl rfl rfl) (okx_BadName T) (by decide) (hr.mono (by decide)) rfl T.m_BadName (pa_cons (pv 0) pa_nil))) pss_nil)
    (pss_one (ps_ret (pv 0)))), ?_⟩
    walk_at "rd"
    refine iteBN (fun c => ?_) (fun c => ?_)
    · walk_at "rd"
      exact ⟨⟨z, rfl, hz⟩, e c⟩
    · walk_at "rd"
      exact q c
theorem check_name_go (T : Txt K mg) {H : Hp} {Q : VK} {E : XK} {z : Str} (hz : z.length ≤ 1000000) (e : nameB z = false → ∀ d, H d = none → E (.ref T.c_BadName) (some d) (upd H d (.xd (f_BadName [.str z])))) (q : nameB z = true → Q (.str z) H) : sp_check_name T [.str z] H Q E := by
  unfold sp_check_name
  exact ⟨z, rfl, hz, e, q⟩

/-! ### _law_told -/
@[irreducible] def sp__law_told (K : PySem.W.Frag) : Sp := fun vs H Q E => ∃ (z : Str), vs = [.str z] ∧ (z.length ≤ 1000000) ∧ (∀ r H', Same H H' → SqT K H' r (if nameB z = true then [.str "value", .str z] else [.str "bad", .str z]) → Q (.ref r) H')
theorem ok__law_told (T : Txt K mg) : FnOk P w K mg base (L2.CX P w) 4 T.a__law_told T.fd__law_told ["text"] (sp__law_told K) := by
  refine T.F__law_told.ok sc__law_told (fun vs H Q E h => ?_) (fun cdv A outer s H vs Q E hr h => ?_)
  · unfold sp__law_told at h
    obtain ⟨z, rfl, _⟩ := h
    rfl
  · unfold sp__law_told at h
    obtain ⟨z, rfl, hz, q⟩ := h
    refine ⟨_, (pss_one (ps_tryX rfl rfl (takes_of rfl rfl rfl rfl) (fun W pn xe tk po => (pss_one (ps_ret (pe_tup (pa_cons pe_str (pa_cons (pe_callS (ok_check_name T) (hr.mono (by decide)) rfl T.m_check_name T.F_check_name.kp T.b_check_name (fun σ => passAt tk σ) (pa_cons (pv 0) pa_nil)) pa_nil))))))
      (HdsX.named (i := 1) sc__law_told.nd rfl rfl ⟨rfl, by decide, .inl T.m_BadName⟩ (fun a oe cls d pn hz hf => (pss_cons (ps_if (PW.pt (pw_or (pt_val (pe_callB (call_isX T.e_BadName.lx hz hf) rfl T.z_isinstance bt_isinstance (pa_cons (pv 1) (pa_cons (pe_glob (v := .ref T.c_OutOfRange) rfl T.m_OutOfRange rfl) pa_nil)))) (pw_or1 (pt_val (pe_callB (call_isX T.e_BadName.lx hz hf) rfl T.z_isinstance bt_isinstance (pa_cons (pv 1) (pa_cons (pe_glob (v := .ref T.c_UnknownName) rfl T.m_UnknownName rfl) pa_nil))))))) (pss_one (ps_ret (pe_tup (pa_cons pe_str (pa_cons pe_str pa_nil))))) pss_nil)
        (pss_one (ps_ret (pe_tup (pa_cons pe_str (pa_cons (pe_xf T.e_BadName.xf T.n_BadName_name hz hf (pv 1)) pa_nil)))))))
      HdsX.nil))), ?_⟩
    walk_at "rd"
    refine check_name_go T hz (fun c z' hz' => ?_) fun c => ?_
    · refine wx_hit (by walk_at "exm") fun e he => ?_
      walk_at "rd"
      rename_i p hp
      refine q p _ ((same_new (Same.refl _) hz').trans (same_new (Same.refl _) hp)) (t_of (upd_same.trans ?_))
      rw [c]
      rfl
    · walk_at "rd"
      rename_i p hp
      refine q p _ (same_new (Same.refl _) hp) (t_of (upd_same.trans ?_))
      rw [c]
      rfl
theorem _law_told_go {H : Hp} {Q : VK} {E : XK} {z : Str} (hz : z.length ≤ 1000000) (q : ∀ r H', Same H H' → SqT K H' r (if nameB z = true then [.str "value", .str z] else [.str "bad", .str z]) → Q (.ref r) H') : sp__law_told K [.str z] H Q E := by
  unfold sp__law_told
  exact ⟨z, rfl, hz, q⟩
local macro_rules | `(tactic| walk_at "call") => `(tactic| (apply _law_told_go; (first | assumption | omega)))

/-! ### law -/
theorem words_ok : (v_PRODUCT_WORDS ++ v_SCRIPT_WORDS).all (fun v => match v with | .str z => decide (z.length ≤ 20) && okS z | _ => false) = true := by decide +kernel
theorem word_at {i : Nat} (h : i < (v_PRODUCT_WORDS ++ v_SCRIPT_WORDS).length) : ∃ z : Str, (v_PRODUCT_WORDS ++ v_SCRIPT_WORDS)[i]? = some (.str z) ∧ z.length ≤ 20 ∧ okS z = true := by
  have e := List.getElem?_eq_getElem h
  have m := List.all_eq_true.mp words_ok _ (List.getElem_mem h)
  cases hv : (v_PRODUCT_WORDS ++ v_SCRIPT_WORDS)[i] with
  | str z =>
    rw [hv] at m e
    have m2 := Bool.and_eq_true_iff.mp m
    exact ⟨z, e, of_decide_eq_true m2.1, m2.2⟩
  | non => rw [hv] at m; cases m
  | bl _ => rw [hv] at m; cases m
  | int _ => rw [hv] at m; cases m
  | byt _ => rw [hv] at m; cases m
  | flt _ => rw [hv] at m; cases m
  | ref _ => rw [hv] at m; cases m
  | ty _ => rw [hv] at m; cases m
theorem words_flat : (v_PRODUCT_WORDS ++ v_SCRIPT_WORDS).all flatV = true := by decide +kernel
theorem words_len : (v_PRODUCT_WORDS ++ v_SCRIPT_WORDS).length = 61 := by decide +kernel
theorem ok_law (T : Txt K mg) : FnOk P w K mg base (L2.CX P w) 5 T.a_law T.fd_law ["script"] (sp_law K) := by
  refine T.F_law.ok sc_law (fun vs H Q E h => ?_) (fun cdv A outer s H vs Q E hr h => ?_)
  · obtain ⟨l, ns, rfl, _⟩ := h
    rfl
  · obtain ⟨l, ns, rfl, hs, hn, hb, q⟩ := h
    refine ⟨_, (pss_cons (ps_set (i := 1) sc_law.nd rfl (Or.inl rfl) (pe_op op_add pe_int (pe_op op_mod (pe_callTy call_int1 rfl T.z_int bt_int (pa_cons (pe_callS (ok__law_cell T) (hr.mono (by decide)) rfl T.m__law_cell T.F__law_cell.kp T.b__law_cell (fun σ => passAt (takes_of rfl rfl rfl rfl) σ) (pa_cons (pv 0) (pa_cons pe_int pa_nil))) pa_nil)) pe_int)))
    (pss_cons (ps_set (i := 2) sc_law.nd rfl (Or.inl rfl) (pe_callS (ok__law_name T) (hr.mono (by decide)) rfl T.m__law_name T.F__law_name.kp T.b__law_name (fun σ => passAt (takes_of rfl rfl rfl rfl) σ) (pa_cons (pe_callS (ok__law_cell T) (hr.mono (by decide)) rfl T.m__law_cell T.F__law_cell.kp T.b__law_cell (fun σ => passAt (takes_of rfl rfl rfl rfl) σ) (pa_cons (pv 0) (pa_cons pe_int pa_nil))) (pa_cons (pv 1) pa_nil))))
    (pss_cons (ps_set (i := 3) sc_law.nd rfl (Or.inl rfl) (pe_op op_mod (pe_callTy call_int1 rfl T.z_int bt_int (pa_cons (pe_callS (ok__law_cell T) (hr.mono (by decide)) rfl T.m__law_cell T.F__law_cell.kp T.b__law_cell (fun σ => passAt (takes_of rfl rfl rfl rfl) σ) (pa_cons (pv 0) (pa_cons pe_int pa_nil))) pa_nil)) (pv 1)))
    (pss_cons (ps_cut (ps_if (pt_cmpR op_eq (pe_op op_mod (pe_op op_fdivB (pe_callTy call_int1 rfl T.z_int bt_int (pa_cons (pe_callS (ok__law_cell T) (hr.mono (by decide)) rfl T.m__law_cell T.F__law_cell.kp T.b__law_cell (fun σ => passAt (takes_of rfl rfl rfl rfl) σ) (pa_cons (pv 0) (pa_cons pe_int pa_nil))) pa_nil)) pe_int) pe_int) pe_int (nomark _)) (pss_cons (ps_set (i := 4) sc_law.nd rfl (Or.inl rfl) pe_str)
      (pss_one (ps_set (i := 2) sc_law.nd rfl (Or.inl rfl) (pe_op op_addS (pe_op op_addS (pe_slice sl_ss (pv 2) po_none (po_some (pv 3))) (pe_ix ix_ss (pv 4) (pe_op op_mod (pe_callTy call_int1 rfl T.z_int bt_int (pa_cons (pe_callS (ok__law_cell T) (hr.mono (by decide)) rfl T.m__law_cell T.F__law_cell.kp T.b__law_cell (fun σ => passAt (takes_of rfl rfl rfl rfl) σ) (pa_cons (pv 0) (pa_cons pe_int pa_nil))) pa_nil)) pe_int) (fun _ _ => rfl))) (pe_slice sl_ss (pv 2) (po_some (pe_op op_add (pv 3) pe_int)) po_none))))) pss_nil))
    (pss_cons (ps_cut (ps_if (pt_cmpR op_eq (pe_op op_mod (pe_op op_fdivB (pe_callTy call_int1 rfl T.z_int bt_int (pa_cons (pe_callS (ok__law_cell T) (hr.mono (by decide)) rfl T.m__law_cell T.F__law_cell.kp T.b__law_cell (fun σ => passAt (takes_of rfl rfl rfl rfl) σ) (pa_cons (pv 0) (pa_cons pe_int pa_nil))) pa_nil)) pe_int) pe_int) pe_int (nomark _)) (pss_one (ps_set (i := 2) sc_law.nd rfl (Or.inl rfl) pe_str)) pss_nil))
    (pss_cons (ps_set (i := 5) sc_law.nd rfl (Or.inl rfl) (pe_callS0 (ok__law_kept T) (hr.mono (by decide)) rfl T.m__law_kept T.F__law_kept.kp T.b__law_kept (fun σ => passAt (takes_of rfl rfl rfl rfl) σ)))
    (pss_cons (ps_set (i := 6) sc_law.nd rfl (Or.inl rfl) (pe_ix ix_list (pv 5) (pe_op op_mod (pe_callTy call_int1 rfl T.z_int bt_int (pa_cons (pe_callS (ok__law_cell T) (hr.mono (by decide)) rfl T.m__law_cell T.F__law_cell.kp T.b__law_cell (fun σ => passAt (takes_of rfl rfl rfl rfl) σ) (pa_cons (pv 0) (pa_cons pe_int pa_nil))) pa_nil)) (pe_callB call_ln rfl T.z_len bt_len (pa_cons (pv 5) pa_nil))) (fun _ _ => rfl)))
    (pss_cons (ps_cut (ps_if (pt_cmpR op_eq (pe_op op_mod (pe_callTy call_int1 rfl T.z_int bt_int (pa_cons (pe_callS (ok__law_cell T) (hr.mono (by decide)) rfl T.m__law_cell T.F__law_cell.kp T.b__law_cell (fun σ => passAt (takes_of rfl rfl rfl rfl) σ) (pa_cons (pv 0) (pa_cons pe_int pa_nil))) pa_nil)) pe_int) pe_int (nomark _)) (pss_one (ps_set (i := 6) sc_law.nd rfl (Or.inl rfl) (pe_op op_addS (pv 6) (pe_callS (ok__law_name T) (hr.mono (by decide)) rfl T.m__law_name T.F__law_name.kp T.b__law_name (fun σ => passAt (takes_of rfl rfl rfl rfl) σ) (pa_cons (pe_callS (ok__law_cell T) (hr.mono (by decide)) rfl T.m__law_cell T.F__law_cell.kp T.b__law_cell (fun σ => passAt (takes_of rfl rfl rfl rfl) σ) (pa_cons (pv 0) (pa_cons pe_int pa_nil))) (pa_cons pe_int pa_nil)))))) pss_nil))
    (pss_cons (ps_cut (ps_if (pt_cmpR op_eq (pe_op op_mod (pe_callTy call_int1 rfl T.z_int bt_int (pa_cons (pe_callS (ok__law_cell T) (hr.mono (by decide)) rfl T.m__law_cell T.F__law_cell.kp T.b__law_cell (fun σ => passAt (takes_of rfl rfl rfl rfl) σ) (pa_cons (pv 0) (pa_cons pe_int pa_nil))) pa_nil)) pe_int) pe_int (nomark _)) (pss_one (ps_set (i := 6) sc_law.nd rfl (Or.inl rfl) (pe_slice sl_ss (pv 6) po_none (po_some (pe_op op_sub (pe_callB call_lenS rfl T.z_len bt_len (pa_cons (pv 6) pa_nil)) pe_int))))) pss_nil))
    (pss_cons (ps_for (passes_of rfl) rfl (pi_list (pe_lst (pa_cons (pv 2) (pa_cons (pv 6) pa_nil)))) (pg_name (i := 7) sc_law.nd rfl (Or.inl rfl))
      (pss_cons (ps_set (i := 8) sc_law.nd rfl (Or.inl rfl) (pe_callS (ok_is_name T) (hr.mono (by decide)) rfl T.m_is_name T.F_is_name.kp T.b_is_name (fun σ => passAt (takes_of rfl rfl rfl rfl) σ) (pa_cons (pv 7) pa_nil)))
      (pss_cons (ps_if (PW.pt (pw_or (pt_not (pt_val (pe_callB call_is rfl T.z_isinstance bt_isinstance (pa_cons (pv 8) (pa_cons (pe_bltn (v := .ty "bool") rfl T.z_bool bt_bool rfl) pa_nil))))) (pw_or1 (pt_cmpR op_ne (pv 8) (pe_callS (ok__law_good T) (hr.mono (by decide)) rfl T.m__law_good T.F__law_good.kp T.b__law_good (fun σ => passAt (takes_of rfl rfl rfl rfl) σ) (pa_cons (pv 7) pa_nil)) (nomark _))))) (pss_one (ps_ret pe_bl)) pss_nil)
      (pss_cons (ps_set (i := 9) sc_law.nd rfl (Or.inl rfl) (pe_tup (pa_cons pe_str (pa_cons (pv 7) pa_nil))))
      (pss_cons (ps_cut (ps_if (pt_val (pe_callS (ok__law_good T) (hr.mono (by decide)) rfl T.m__law_good T.F__law_good.kp T.b__law_good (fun σ => passAt (takes_of rfl rfl rfl rfl) σ) (pa_cons (pv 7) pa_nil))) (pss_one (ps_set (i := 9) sc_law.nd rfl (Or.inl rfl) (pe_tup (pa_cons pe_str (pa_cons (pv 7) pa_nil))))) pss_nil))
      (pss_cons (ps_if (pt_cmpR (op_neD hr.units) (pe_callS (ok__law_told T) (hr.mono (by decide)) rfl T.m__law_told T.F__law_told.kp T.b__law_told (fun σ => passAt (takes_of rfl rfl rfl rfl) σ) (pa_cons (pv 7) pa_nil)) (pv 9) (nomark _)) (pss_one (ps_ret pe_bl)) pss_nil)
      (pss_cons (ps_set (i := 10) sc_law.nd rfl (Or.inl rfl) (pe_callS (ok_is_kept T) (hr.mono (by decide)) rfl T.m_is_kept T.F_is_kept.kp T.b_is_kept (fun σ => passAt (takes_of rfl rfl rfl rfl) σ) (pa_cons (pv 7) pa_nil)))
      (pss_one (ps_if (PW.pt (pw_or (pt_not (pt_val (pe_callB call_is rfl T.z_isinstance bt_isinstance (pa_cons (pv 10) (pa_cons (pe_bltn (v := .ty "bool") rfl T.z_bool bt_bool rfl) pa_nil))))) (pw_or1 (pt_cmpR op_ne (pv 10) (pe_cmpR op_inS (pv 7) (pv 5) (by rfl)) (nomark _))))) (pss_one (ps_ret pe_bl)) pss_nil)))))))))
    (pss_one (ps_ret pe_bl)))))))))))), ?_⟩
    have c1 := cell_sz hb 1
    walk_at "rd"
    intro z H1 hz oz s1
    have hs1 := same_lst s1 hs
    have sz0 : (0 : Int) < 1 + cell ns 0 % 13 := by omega
    have m1 := Int.emod_nonneg (cell ns 2) (b := 1 + cell ns 0 % 13) (by omega)
    have m2 := Int.emod_lt_of_pos (cell ns 2) sz0
    have zl : z.length ≤ 100 := by omega
    have zl' : z.length ≤ sizeLine := by rw [sizeLine_eq]; omega
    walk_at "rd"
    refine ⟨fun σ' H' => Wall (∃ (z : Str) (u : Option V), z.length ≤ 60 ∧ okS z = true ∧ SqL K H' l (ns.map V.int) ∧ σ' = [some (.ref l), some (.int (1 + cell ns 0 % 13)), some (.str z), some (.int (cell ns 2 % (1 + cell ns 0 % 13))), u, none, none, none, none, none, none]), ?_, ?_⟩
    · walk_at "rd"
      refine iteI (fun c => ?_) (fun c => ?_)
      · have ec : ("AZ_- .0a9/+\n" : Str).cps.toList = [65, 90, 95, 45, 32, 46, 48, 97, 57, 47, 43, 10] := by decide +kernel
        have l1 := len_cut z none (some (cell ns 2 % (1 + cell ns 0 % 13)))
        have l2 := len_cut z (some (cell ns 2 % (1 + cell ns 0 % 13) + 1)) none
        obtain ⟨d, hd, ed⟩ : ∃ d : Nat, d < 1114112 ∧ atI ("AZ_- .0a9/+\n" : Str).cps.toList (cell ns 3 % 12) = some d := by
          rw [ec]
          obtain ⟨m, hm⟩ : ∃ m : Nat, cell ns 3 % 12 = m := ⟨(cell ns 3 % 12).toNat, by omega⟩
          rw [hm]
          have hm2 : m < ([65, 90, 95, 45, 32, 46, 48, 97, 57, 47, 43, 10] : List Nat).length := by show m < 12; omega
          refine ⟨([65, 90, 95, 45, 32, 46, 48, 97, 57, 47, 43, 10] : List Nat)[m], ?_, atI_nat (List.getElem?_eq_getElem hm2)⟩
          have hall : ∀ e ∈ ([65, 90, 95, 45, 32, 46, 48, 97, 57, 47, 43, 10] : List Nat), e < 1114112 := by decide
          exact hall _ (List.getElem_mem hm2)
        have ld : (⟨#[d]⟩ : Str).length = 1 := rfl
        walk_at "rd"
        refine wall ⟨_, _, ?_, okS_app (okS_app (okS_cut oz _ _) (okS_one hd)) (okS_cut oz _ _), by walk_at "sq", rfl⟩
        rw [len_app, len_app, ld]
        omega
      · exact wall ⟨z, _, by omega, oz, by walk_at "sq", rfl⟩
    clear hs1 hz oz zl zl' s1
    rintro _ H2 ⟨w2⟩
    obtain ⟨z, u, zl, oz, hs2, rfl⟩ := w2 trivial
    clear w2
    refine ⟨fun σ' H' => Wall (∃ (z : Str) (u : Option V), z.length ≤ 60 ∧ okS z = true ∧ SqL K H' l (ns.map V.int) ∧ σ' = [some (.ref l), some (.int (1 + cell ns 0 % 13)), some (.str z), some (.int (cell ns 2 % (1 + cell ns 0 % 13))), u, none, none, none, none, none, none]), ?_, ?_⟩
    · walk_at "rd"
      refine iteI (fun c => ?_) (fun c => ?_)
      · walk_at "rd"
        exact wall ⟨_, _, by decide, by decide, by walk_at "sq", rfl⟩
      · exact wall ⟨z, _, zl, oz, by walk_at "sq", rfl⟩
    clear hs2 zl oz
    rintro _ H3 ⟨w3⟩
    obtain ⟨z, u, zl, oz, hs3, rfl⟩ := w3 trivial
    clear w3
    walk_at "rd"
    intro wd H4 s4 L4
    have hs4 := same_lst s4 hs3
    walk_at "rd"
    obtain ⟨y, ey, yl, oy⟩ : ∃ y : Str, atI (v_PRODUCT_WORDS ++ v_SCRIPT_WORDS) (cell ns 4 % (((v_PRODUCT_WORDS ++ v_SCRIPT_WORDS).length : Nat) : Int)) = some (.str y) ∧ y.length ≤ 20 ∧ okS y = true := by
      have hl := words_len
      obtain ⟨m, hm⟩ : ∃ m : Nat, cell ns 4 % (((v_PRODUCT_WORDS ++ v_SCRIPT_WORDS).length : Nat) : Int) = m := ⟨(cell ns 4 % (((v_PRODUCT_WORDS ++ v_SCRIPT_WORDS).length : Nat) : Int)).toNat, by rw [hl]; omega⟩
      rw [hm]
      obtain ⟨y, h1, h2, h3⟩ := word_at (i := m) (by rw [hl] at hm ⊢; omega)
      exact ⟨y, atI_nat h1, h2, h3⟩
    refine ixL_go L4 ey ?_
    refine ⟨fun σ' H' => Wall (∃ (y : Str), y.length ≤ 30 ∧ okS y = true ∧ SqL K H' l (ns.map V.int) ∧ SqL K H' wd (v_PRODUCT_WORDS ++ v_SCRIPT_WORDS) ∧ σ' = [some (.ref l), some (.int (1 + cell ns 0 % 13)), some (.str z), some (.int (cell ns 2 % (1 + cell ns 0 % 13))), u, some (.ref wd), some (.str y), none, none, none, none]), ?_, ?_⟩
    · walk_at "rd"
      refine iteI (fun c => ?_) (fun c => ?_)
      · walk_at "rd"
        intro x H5 xl ox s5
        have xl2 : x.length = 1 := xl
        have yx : y.length + x.length ≤ sizeLine := by rw [sizeLine_eq]; omega
        walk_at "rd"
        refine wall ⟨_, by rw [len_app]; omega, okS_app oy ox, same_lst s5 hs4, same_lst s5 L4, rfl⟩
      · exact wall ⟨y, by omega, oy, hs4, L4, rfl⟩
    clear hs4 L4 yl oy ey s4
    rintro _ H5 ⟨w5⟩
    obtain ⟨y, yl, oy, hs5, L5, rfl⟩ := w5 trivial
    clear w5
    refine ⟨fun σ' H' => Wall (∃ (y : Str), y.length ≤ 30 ∧ okS y = true ∧ SqL K H' l (ns.map V.int) ∧ SqL K H' wd (v_PRODUCT_WORDS ++ v_SCRIPT_WORDS) ∧ σ' = [some (.ref l), some (.int (1 + cell ns 0 % 13)), some (.str z), some (.int (cell ns 2 % (1 + cell ns 0 % 13))), u, some (.ref wd), some (.str y), none, none, none, none]), ?_, ?_⟩
    · walk_at "rd"
      refine iteI (fun c => ?_) (fun c => ?_)
      · have l1 := len_cut y none (some ((y.length : Nat) - 1))
        walk_at "rd"
        exact wall ⟨_, Nat.le_trans l1 yl, okS_cut oy _ _, hs5, L5, rfl⟩
      · exact wall ⟨y, yl, oy, hs5, L5, rfl⟩
    clear hs5 L5 yl oy
    rintro _ H6 ⟨w6⟩
    obtain ⟨y, yl, oy, hs6, L6, rfl⟩ := w6 trivial
    clear w6
    walk_at "rd"
    rename_i pl hpl
    have LL := l_of (K := K) (upd_same (H := H6) (a := pl) (o := .lst [.str z, .str y]))
    have L7 := lst_upd (o := .lst [.str z, .str y]) hpl L6
    generalize upd H6 pl (.lst [.str z, .str y]) = H7 at *
    refine ⟨⟨_, LL⟩, for_list (xs := [.str z, .str y]) (fun i σ H' => Wall (∃ (u7 u8 u9 u10 : Option V), Same H7 H' ∧ σ = [some (.ref l), some (.int (1 + cell ns 0 % 13)), some (.str z), some (.int (cell ns 2 % (1 + cell ns 0 % 13))), u, some (.ref wd), some (.str y), u7, u8, u9, u10])) (wall ⟨_, _, _, _, Same.refl _, rfl⟩) (fun i σ H' _ h => by obtain ⟨_, _, _, _, s, _⟩ := h.get trivial; exact same_lst s LL) ?_ ?_⟩
    · rintro i x σ H8 hx ⟨w8⟩
      obtain ⟨u7, u8, u9, u10, s8, rfl⟩ := w8 trivial
      obtain ⟨o, rfl, ol, oo⟩ : ∃ o : Str, x = .str o ∧ o.length ≤ 100 ∧ okS o = true := by
        match i, hx with
        | 0, h => cases h; exact ⟨_, rfl, by omega, oz⟩
        | 1, h => cases h; exact ⟨_, rfl, by omega, oy⟩
      have ol2 : o.length ≤ 1000000 := by omega
      have L8 := same_lst s8 L7
      walk_at "rd"
      refine iteDN (fun h => (h rfl).elim) (fun _ => ?_)
      walk_at "rd"
      rename_i pd hpd
      have fl : ∀ (a b : Str), okS a = true → okS b = true → (if nameB o = true then [V.str a, .str o] else [.str b, .str o]).all flatS = true := fun a b ha hb => by
        split
        · show (okS a && (okS o && true)) = true; rw [ha, oo]; rfl
        · show (okS b && (okS o && true)) = true; rw [hb, oo]; rfl
      refine ⟨fun σ' H' => Wall (∃ pd, Same H8 H' ∧ SqT K H' pd (if nameB o = true then [.str "value", .str o] else [.str "bad", .str o]) ∧ σ' = [some (.ref l), some (.int (1 + cell ns 0 % 13)), some (.str z), some (.int (cell ns 2 % (1 + cell ns 0 % 13))), u, some (.ref wd), some (.str y), some (.str o), some (.bl (nameB o)), some (.ref pd), u10]), ?_, ?_⟩
      · walk_at "rd"
        refine iteB (fun c => ?_) (fun c => ?_)
        · walk_at "rd"
          exact wall ⟨_, same_new (same_new (Same.refl _) hpd) (by assumption), by rw [if_pos c]; exact t_of upd_same, rfl⟩
        · exact wall ⟨_, same_new (Same.refl _) hpd, by rw [c]; exact t_of upd_same, rfl⟩
      rintro _ H9 ⟨w9⟩
      obtain ⟨pd, s9, T9, rfl⟩ := w9 trivial
      have L9 := same_lst s9 L8
      walk_at "rd"
      intro r Ha sa Ta
      have La := same_lst sa L9
      have Tb := same_tup sa T9
      walk_at "rd"
      refine neD_TT Ta Tb rfl (fl "value" "bad" (by decide) (by decide)) ?_
      walk_at "rd"
      refine iteDN (fun h => (h rfl).elim) (fun _ => ?_)
      exact wall ⟨_, _, _, _, (s8.trans s9).trans sa, rfl⟩
    · rintro σ H8 ⟨w8⟩
      obtain ⟨u7, u8, u9, u10, s8, rfl⟩ := w8 trivial
      walk_at "rd"
      exact q _

end
theorem all_mk {w : World} {K : PySem.W.Frag} {h : Heap} {mg : Str → Option Value} {fa : Addr} (X : K.In h) (G : h.Ns mainGlobals mg) (hfa : mg "law" = some (.ref fa))
    {f_is_lower : Addr} {oc_is_lower kV_is_lower dc_is_lower pm_is_lower cd_is_lower ct_is_lower : Value} {od_is_lower an_is_lower : Option Addr} {sl_is_lower : Array (Option Value)}
    {f_is_digit : Addr} {oc_is_digit kV_is_digit dc_is_digit pm_is_digit cd_is_digit ct_is_digit : Value} {od_is_digit an_is_digit : Option Addr} {sl_is_digit : Array (Option Value)}
    {f_is_name : Addr} {oc_is_name kV_is_name dc_is_name pm_is_name cd_is_name ct_is_name : Value} {od_is_name an_is_name : Option Addr} {sl_is_name : Array (Option Value)}
    {f_check_name : Addr} {oc_check_name kV_check_name dc_check_name pm_check_name cd_check_name ct_check_name : Value} {od_check_name an_check_name : Option Addr} {sl_check_name : Array (Option Value)}
    {f_is_kept : Addr} {oc_is_kept kV_is_kept dc_is_kept pm_is_kept cd_is_kept ct_is_kept : Value} {od_is_kept an_is_kept : Option Addr} {sl_is_kept : Array (Option Value)}
    {f__law_cell : Addr} {oc__law_cell kV__law_cell dc__law_cell pm__law_cell cd__law_cell ct__law_cell : Value} {od__law_cell an__law_cell : Option Addr} {sl__law_cell : Array (Option Value)}
    {f__law_draw : Addr} {oc__law_draw kV__law_draw dc__law_draw pm__law_draw cd__law_draw ct__law_draw : Value} {od__law_draw an__law_draw : Option Addr} {sl__law_draw : Array (Option Value)}
    {f__law_name : Addr} {oc__law_name kV__law_name dc__law_name pm__law_name cd__law_name ct__law_name : Value} {od__law_name an__law_name : Option Addr} {sl__law_name : Array (Option Value)}
    {f__law_kept : Addr} {oc__law_kept kV__law_kept dc__law_kept pm__law_kept cd__law_kept ct__law_kept : Value} {od__law_kept an__law_kept : Option Addr} {sl__law_kept : Array (Option Value)}
    {f__law_good : Addr} {oc__law_good kV__law_good dc__law_good pm__law_good cd__law_good ct__law_good : Value} {od__law_good an__law_good : Option Addr} {sl__law_good : Array (Option Value)}
    {f__law_told : Addr} {oc__law_told kV__law_told dc__law_told pm__law_told cd__law_told ct__law_told : Value} {od__law_told an__law_told : Option Addr} {sl__law_told : Array (Option Value)}
    {f_law : Addr} {oc_law kV_law dc_law pm_law cd_law ct_law : Value} {od_law an_law : Option Addr} {sl_law : Array (Option Value)}
    {c_BookError : Addr}
    {c_OutOfRange : Addr}
    {fI_OutOfRange cc_OutOfRange cda_OutOfRange N_OutOfRange : Addr} {oc_OutOfRange doc_OutOfRange pm_OutOfRange ct_OutOfRange cl_OutOfRange ccl_OutOfRange : Value} {od_OutOfRange dd_OutOfRange cld_OutOfRange cdd_OutOfRange : Option Addr} {osl_OutOfRange csl_OutOfRange ccs_OutOfRange : Array (Option Value)} {nm_OutOfRange q_OutOfRange file_OutOfRange : Str} {bs_OutOfRange sub_OutOfRange : List Value} {sn_OutOfRange : List Str} {ab_OutOfRange : Bool} {col_OutOfRange : Option Bool} {m0_OutOfRange m1_OutOfRange m2_OutOfRange m3_OutOfRange m5_OutOfRange : Option Value} {vs_OutOfRange : Array Value} {tf_OutOfRange : Tok}
    {c_UnknownName : Addr}
    {fI_UnknownName cc_UnknownName cda_UnknownName N_UnknownName : Addr} {oc_UnknownName doc_UnknownName pm_UnknownName ct_UnknownName cl_UnknownName ccl_UnknownName : Value} {od_UnknownName dd_UnknownName cld_UnknownName cdd_UnknownName : Option Addr} {osl_UnknownName csl_UnknownName ccs_UnknownName : Array (Option Value)} {nm_UnknownName q_UnknownName file_UnknownName : Str} {bs_UnknownName sub_UnknownName : List Value} {sn_UnknownName : List Str} {ab_UnknownName : Bool} {col_UnknownName : Option Bool} {m0_UnknownName m1_UnknownName m2_UnknownName m3_UnknownName m5_UnknownName : Option Value} {vs_UnknownName : Array Value} {tf_UnknownName : Tok}
    {c_BadName : Addr}
    {fI_BadName cc_BadName cda_BadName N_BadName : Addr} {oc_BadName doc_BadName pm_BadName ct_BadName cl_BadName ccl_BadName : Value} {od_BadName dd_BadName cld_BadName cdd_BadName : Option Addr} {osl_BadName csl_BadName ccs_BadName : Array (Option Value)} {nm_BadName q_BadName file_BadName : Str} {bs_BadName sub_BadName : List Value} {sn_BadName : List Str} {ab_BadName : Bool} {col_BadName : Option Bool} {m0_BadName m1_BadName m2_BadName m3_BadName m5_BadName : Option Value} {vs_BadName : Array Value} {tf_BadName : Tok}
    {tk_NAME_LENGTH : Tok}
    {q_PRODUCT_WORDS : Addr} {od_PRODUCT_WORDS : Option Addr} {nn_PRODUCT_WORDS : Nat} {sl_PRODUCT_WORDS : Array (Option Value)}
    {its_PRODUCT_WORDS : Array Value}
    {q_SCRIPT_WORDS : Addr} {od_SCRIPT_WORDS : Option Addr} {nn_SCRIPT_WORDS : Nat} {sl_SCRIPT_WORDS : Array (Option Value)}
    {its_SCRIPT_WORDS : Array Value}
    (a_is_lower : PySem.W.nsIn K mainGlobals "is_lower" = some (some (.ref f_is_lower)))
    (l_is_lower : K.lookup f_is_lower = some ⟨oc_is_lower, od_is_lower, .func (PySem.W.fnOf "is_lower" "is_lower" (defArgs s_is_lower) (defBody s_is_lower) (defScope s_is_lower) .none kV_is_lower dc_is_lower pm_is_lower an_is_lower cd_is_lower ct_is_lower), sl_is_lower⟩)
    (c_is_lower : PySem.W.codeIn K cd_is_lower "is_lower" = true)
    (k_is_lower : PySem.W.keepIn K (.ref f_is_lower) = true)
    (a_is_digit : PySem.W.nsIn K mainGlobals "is_digit" = some (some (.ref f_is_digit)))
    (l_is_digit : K.lookup f_is_digit = some ⟨oc_is_digit, od_is_digit, .func (PySem.W.fnOf "is_digit" "is_digit" (defArgs s_is_digit) (defBody s_is_digit) (defScope s_is_digit) .none kV_is_digit dc_is_digit pm_is_digit an_is_digit cd_is_digit ct_is_digit), sl_is_digit⟩)
    (c_is_digit : PySem.W.codeIn K cd_is_digit "is_digit" = true)
    (k_is_digit : PySem.W.keepIn K (.ref f_is_digit) = true)
    (a_is_name : PySem.W.nsIn K mainGlobals "is_name" = some (some (.ref f_is_name)))
    (l_is_name : K.lookup f_is_name = some ⟨oc_is_name, od_is_name, .func (PySem.W.fnOf "is_name" "is_name" (defArgs s_is_name) (defBody s_is_name) (defScope s_is_name) .none kV_is_name dc_is_name pm_is_name an_is_name cd_is_name ct_is_name), sl_is_name⟩)
    (c_is_name : PySem.W.codeIn K cd_is_name "is_name" = true)
    (k_is_name : PySem.W.keepIn K (.ref f_is_name) = true)
    (a_check_name : PySem.W.nsIn K mainGlobals "check_name" = some (some (.ref f_check_name)))
    (l_check_name : K.lookup f_check_name = some ⟨oc_check_name, od_check_name, .func (PySem.W.fnOf "check_name" "check_name" (defArgs s_check_name) (defBody s_check_name) (defScope s_check_name) .none kV_check_name dc_check_name pm_check_name an_check_name cd_check_name ct_check_name), sl_check_name⟩)
    (c_check_name : PySem.W.codeIn K cd_check_name "check_name" = true)
    (k_check_name : PySem.W.keepIn K (.ref f_check_name) = true)
    (a_is_kept : PySem.W.nsIn K mainGlobals "is_kept" = some (some (.ref f_is_kept)))
    (l_is_kept : K.lookup f_is_kept = some ⟨oc_is_kept, od_is_kept, .func (PySem.W.fnOf "is_kept" "is_kept" (defArgs s_is_kept) (defBody s_is_kept) (defScope s_is_kept) .none kV_is_kept dc_is_kept pm_is_kept an_is_kept cd_is_kept ct_is_kept), sl_is_kept⟩)
    (c_is_kept : PySem.W.codeIn K cd_is_kept "is_kept" = true)
    (k_is_kept : PySem.W.keepIn K (.ref f_is_kept) = true)
    (a__law_cell : PySem.W.nsIn K mainGlobals "_law_cell" = some (some (.ref f__law_cell)))
    (l__law_cell : K.lookup f__law_cell = some ⟨oc__law_cell, od__law_cell, .func (PySem.W.fnOf "_law_cell" "_law_cell" (defArgs s__law_cell) (defBody s__law_cell) (defScope s__law_cell) .none kV__law_cell dc__law_cell pm__law_cell an__law_cell cd__law_cell ct__law_cell), sl__law_cell⟩)
    (c__law_cell : PySem.W.codeIn K cd__law_cell "_law_cell" = true)
    (k__law_cell : PySem.W.keepIn K (.ref f__law_cell) = true)
    (a__law_draw : PySem.W.nsIn K mainGlobals "_law_draw" = some (some (.ref f__law_draw)))
    (l__law_draw : K.lookup f__law_draw = some ⟨oc__law_draw, od__law_draw, .func (PySem.W.fnOf "_law_draw" "_law_draw" (defArgs s__law_draw) (defBody s__law_draw) (defScope s__law_draw) .none kV__law_draw dc__law_draw pm__law_draw an__law_draw cd__law_draw ct__law_draw), sl__law_draw⟩)
    (c__law_draw : PySem.W.codeIn K cd__law_draw "_law_draw" = true)
    (k__law_draw : PySem.W.keepIn K (.ref f__law_draw) = true)
    (a__law_name : PySem.W.nsIn K mainGlobals "_law_name" = some (some (.ref f__law_name)))
    (l__law_name : K.lookup f__law_name = some ⟨oc__law_name, od__law_name, .func (PySem.W.fnOf "_law_name" "_law_name" (defArgs s__law_name) (defBody s__law_name) (defScope s__law_name) .none kV__law_name dc__law_name pm__law_name an__law_name cd__law_name ct__law_name), sl__law_name⟩)
    (c__law_name : PySem.W.codeIn K cd__law_name "_law_name" = true)
    (k__law_name : PySem.W.keepIn K (.ref f__law_name) = true)
    (a__law_kept : PySem.W.nsIn K mainGlobals "_law_kept" = some (some (.ref f__law_kept)))
    (l__law_kept : K.lookup f__law_kept = some ⟨oc__law_kept, od__law_kept, .func (PySem.W.fnOf "_law_kept" "_law_kept" (defArgs s__law_kept) (defBody s__law_kept) (defScope s__law_kept) .none kV__law_kept dc__law_kept pm__law_kept an__law_kept cd__law_kept ct__law_kept), sl__law_kept⟩)
    (c__law_kept : PySem.W.codeIn K cd__law_kept "_law_kept" = true)
    (k__law_kept : PySem.W.keepIn K (.ref f__law_kept) = true)
    (a__law_good : PySem.W.nsIn K mainGlobals "_law_good" = some (some (.ref f__law_good)))
    (l__law_good : K.lookup f__law_good = some ⟨oc__law_good, od__law_good, .func (PySem.W.fnOf "_law_good" "_law_good" (defArgs s__law_good) (defBody s__law_good) (defScope s__law_good) .none kV__law_good dc__law_good pm__law_good an__law_good cd__law_good ct__law_good), sl__law_good⟩)
    (c__law_good : PySem.W.codeIn K cd__law_good "_law_good" = true)
    (k__law_good : PySem.W.keepIn K (.ref f__law_good) = true)
    (a__law_told : PySem.W.nsIn K mainGlobals "_law_told" = some (some (.ref f__law_told)))
    (l__law_told : K.lookup f__law_told = some ⟨oc__law_told, od__law_told, .func (PySem.W.fnOf "_law_told" "_law_told" (defArgs s__law_told) (defBody s__law_told) (defScope s__law_told) .none kV__law_told dc__law_told pm__law_told an__law_told cd__law_told ct__law_told), sl__law_told⟩)
    (c__law_told : PySem.W.codeIn K cd__law_told "_law_told" = true)
    (k__law_told : PySem.W.keepIn K (.ref f__law_told) = true)
    (a_law : PySem.W.nsIn K mainGlobals "law" = some (some (.ref f_law)))
    (l_law : K.lookup f_law = some ⟨oc_law, od_law, .func (PySem.W.fnOf "law" "law" (defArgs s_law) (defBody s_law) (defScope s_law) .none kV_law dc_law pm_law an_law cd_law ct_law), sl_law⟩)
    (c_law : PySem.W.codeIn K cd_law "law" = true)
    (k_law : PySem.W.keepIn K (.ref f_law) = true)
    (third : PySem.W.nsIn K cStatics "thirdparty.any" = some none)
    (zsuper : PySem.W.nsIn K mainGlobals "super" = some none)
    (spc : PySem.W.specialIn K (.builtin "object.__class__") "__get__" = some (some (.builtin "getset_descriptor.__get__")))
    (tkc : PySem.W.takesIn K (.builtin "object.__class__") = some true)
    (a_BookError : PySem.W.nsIn K mainGlobals "BookError" = some (some (.ref c_BookError)))
    (ga_BookError : PySem.W.findIn K (.ref c_BookError) "__getattribute__" = some (some (.builtin "BaseException.__getattribute__")))
    (gg_BookError : PySem.W.findIn K (.ref c_BookError) "__getattr__" = some none)
    (sb_BookError : PySem.W.subIn K (.ref c_BookError) (.type "BaseException") = some true)
    (hd_BookError : PySem.W.hasDictIn K c_BookError = true)
    (ha_BookError : PySem.W.findIn K (.ref c_BookError) "__class__" = some (some (.builtin "object.__class__")))
    (hm_BookError : PySem.W.mroIn K c_BookError (.type "object") = some true)
    (ty_BookError : PySem.W.typeIn K (.ref c_BookError) = some (.type "type"))
    (se_BookError : PySem.W.mroIn K c_BookError (.ref c_BookError) = some true)
    (a_OutOfRange : PySem.W.nsIn K mainGlobals "OutOfRange" = some (some (.ref c_OutOfRange)))
    (ga_OutOfRange : PySem.W.findIn K (.ref c_OutOfRange) "__getattribute__" = some (some (.builtin "BaseException.__getattribute__")))
    (gg_OutOfRange : PySem.W.findIn K (.ref c_OutOfRange) "__getattr__" = some none)
    (sb_OutOfRange : PySem.W.subIn K (.ref c_OutOfRange) (.type "BaseException") = some true)
    (hd_OutOfRange : PySem.W.hasDictIn K c_OutOfRange = true)
    (ha_OutOfRange : PySem.W.findIn K (.ref c_OutOfRange) "__class__" = some (some (.builtin "object.__class__")))
    (hm_OutOfRange : PySem.W.mroIn K c_OutOfRange (.type "object") = some true)
    (ty_OutOfRange : PySem.W.typeIn K (.ref c_OutOfRange) = some (.type "type"))
    (se_OutOfRange : PySem.W.mroIn K c_OutOfRange (.ref c_OutOfRange) = some true)
    (xL_OutOfRange : K.lookup c_OutOfRange = some (excClassObj nm_OutOfRange q_OutOfRange c_OutOfRange N_OutOfRange bs_OutOfRange [.ref c_BookError, .type "ValueError", .type "Exception", .type "BaseException", .type "object"] true sn_OutOfRange sub_OutOfRange ab_OutOfRange col_OutOfRange dd_OutOfRange m0_OutOfRange m1_OutOfRange m2_OutOfRange m3_OutOfRange m5_OutOfRange "ValueError.__new__"))
    (sa_OutOfRange : PySem.W.findIn K (.ref c_OutOfRange) "__setattr__" = some (some (.builtin "object.__setattr__")))
    (kp_OutOfRange : PySem.W.keepIn K (.ref c_OutOfRange) = true)
    (i_OutOfRange : PySem.W.findIn K (.ref c_OutOfRange) "__init__" = some (some (.ref fI_OutOfRange)))
    (ti_OutOfRange : PySem.W.typeIn K (.ref fI_OutOfRange) = some (.type "function"))
    (li_OutOfRange : K.lookup fI_OutOfRange = some ⟨oc_OutOfRange, od_OutOfRange, .func ((⟨"__init__", "OutOfRange.__init__", defArgs s_OutOfRange, defBody s_OutOfRange, defScope s_OutOfRange, [(("__class__" : Str), cc_OutOfRange)], cda_OutOfRange⟩ : NdefX.NF).fd doc_OutOfRange pm_OutOfRange ct_OutOfRange), osl_OutOfRange⟩)
    (ci_OutOfRange : PySem.W.codeIn K (.ref cda_OutOfRange) "OutOfRange.__init__" = true)
    (ce_OutOfRange : K.lookup cc_OutOfRange = some ⟨cl_OutOfRange, cld_OutOfRange, .cell (some (.ref c_OutOfRange)), csl_OutOfRange⟩)
    (co_OutOfRange : K.lookup cda_OutOfRange = some ⟨ccl_OutOfRange, cdd_OutOfRange, .fields vs_OutOfRange, ccs_OutOfRange⟩)
    (vs_OutOfRange : vs_OutOfRange[2]? = some (.str file_OutOfRange tf_OutOfRange))
    (fi_OutOfRange : ((P.main.file : Str) == file_OutOfRange) = true)
    (su_OutOfRange : PySem.W.ks_superIn K c_OutOfRange c_OutOfRange "__init__" = some (some (.builtin "ValueError.__init__")))
    (ve_OutOfRange : PySem.W.subIn K (.ref c_OutOfRange) (.type "ValueError") = some true)
    (n_OutOfRange_label : PySem.W.findIn K (.ref c_OutOfRange) "label" = some none)
    (n_OutOfRange_value : PySem.W.findIn K (.ref c_OutOfRange) "value" = some none)
    (a_UnknownName : PySem.W.nsIn K mainGlobals "UnknownName" = some (some (.ref c_UnknownName)))
    (ga_UnknownName : PySem.W.findIn K (.ref c_UnknownName) "__getattribute__" = some (some (.builtin "BaseException.__getattribute__")))
    (gg_UnknownName : PySem.W.findIn K (.ref c_UnknownName) "__getattr__" = some none)
    (sb_UnknownName : PySem.W.subIn K (.ref c_UnknownName) (.type "BaseException") = some true)
    (hd_UnknownName : PySem.W.hasDictIn K c_UnknownName = true)
    (ha_UnknownName : PySem.W.findIn K (.ref c_UnknownName) "__class__" = some (some (.builtin "object.__class__")))
    (hm_UnknownName : PySem.W.mroIn K c_UnknownName (.type "object") = some true)
    (ty_UnknownName : PySem.W.typeIn K (.ref c_UnknownName) = some (.type "type"))
    (se_UnknownName : PySem.W.mroIn K c_UnknownName (.ref c_UnknownName) = some true)
    (xL_UnknownName : K.lookup c_UnknownName = some (excClassObj nm_UnknownName q_UnknownName c_UnknownName N_UnknownName bs_UnknownName [.ref c_BookError, .type "ValueError", .type "Exception", .type "BaseException", .type "object"] true sn_UnknownName sub_UnknownName ab_UnknownName col_UnknownName dd_UnknownName m0_UnknownName m1_UnknownName m2_UnknownName m3_UnknownName m5_UnknownName "ValueError.__new__"))
    (sa_UnknownName : PySem.W.findIn K (.ref c_UnknownName) "__setattr__" = some (some (.builtin "object.__setattr__")))
    (kp_UnknownName : PySem.W.keepIn K (.ref c_UnknownName) = true)
    (i_UnknownName : PySem.W.findIn K (.ref c_UnknownName) "__init__" = some (some (.ref fI_UnknownName)))
    (ti_UnknownName : PySem.W.typeIn K (.ref fI_UnknownName) = some (.type "function"))
    (li_UnknownName : K.lookup fI_UnknownName = some ⟨oc_UnknownName, od_UnknownName, .func ((⟨"__init__", "UnknownName.__init__", defArgs s_UnknownName, defBody s_UnknownName, defScope s_UnknownName, [(("__class__" : Str), cc_UnknownName)], cda_UnknownName⟩ : NdefX.NF).fd doc_UnknownName pm_UnknownName ct_UnknownName), osl_UnknownName⟩)
    (ci_UnknownName : PySem.W.codeIn K (.ref cda_UnknownName) "UnknownName.__init__" = true)
    (ce_UnknownName : K.lookup cc_UnknownName = some ⟨cl_UnknownName, cld_UnknownName, .cell (some (.ref c_UnknownName)), csl_UnknownName⟩)
    (co_UnknownName : K.lookup cda_UnknownName = some ⟨ccl_UnknownName, cdd_UnknownName, .fields vs_UnknownName, ccs_UnknownName⟩)
    (vs_UnknownName : vs_UnknownName[2]? = some (.str file_UnknownName tf_UnknownName))
    (fi_UnknownName : ((P.main.file : Str) == file_UnknownName) = true)
    (su_UnknownName : PySem.W.ks_superIn K c_UnknownName c_UnknownName "__init__" = some (some (.builtin "ValueError.__init__")))
    (ve_UnknownName : PySem.W.subIn K (.ref c_UnknownName) (.type "ValueError") = some true)
    (n_UnknownName_label : PySem.W.findIn K (.ref c_UnknownName) "label" = some none)
    (n_UnknownName_name : PySem.W.findIn K (.ref c_UnknownName) "name" = some none)
    (a_BadName : PySem.W.nsIn K mainGlobals "BadName" = some (some (.ref c_BadName)))
    (ga_BadName : PySem.W.findIn K (.ref c_BadName) "__getattribute__" = some (some (.builtin "BaseException.__getattribute__")))
    (gg_BadName : PySem.W.findIn K (.ref c_BadName) "__getattr__" = some none)
    (sb_BadName : PySem.W.subIn K (.ref c_BadName) (.type "BaseException") = some true)
    (hd_BadName : PySem.W.hasDictIn K c_BadName = true)
    (ha_BadName : PySem.W.findIn K (.ref c_BadName) "__class__" = some (some (.builtin "object.__class__")))
    (hm_BadName : PySem.W.mroIn K c_BadName (.type "object") = some true)
    (ty_BadName : PySem.W.typeIn K (.ref c_BadName) = some (.type "type"))
    (se_BadName : PySem.W.mroIn K c_BadName (.ref c_BadName) = some true)
    (xL_BadName : K.lookup c_BadName = some (excClassObj nm_BadName q_BadName c_BadName N_BadName bs_BadName [.ref c_BookError, .type "ValueError", .type "Exception", .type "BaseException", .type "object"] true sn_BadName sub_BadName ab_BadName col_BadName dd_BadName m0_BadName m1_BadName m2_BadName m3_BadName m5_BadName "ValueError.__new__"))
    (sa_BadName : PySem.W.findIn K (.ref c_BadName) "__setattr__" = some (some (.builtin "object.__setattr__")))
    (kp_BadName : PySem.W.keepIn K (.ref c_BadName) = true)
    (i_BadName : PySem.W.findIn K (.ref c_BadName) "__init__" = some (some (.ref fI_BadName)))
    (ti_BadName : PySem.W.typeIn K (.ref fI_BadName) = some (.type "function"))
    (li_BadName : K.lookup fI_BadName = some ⟨oc_BadName, od_BadName, .func ((⟨"__init__", "BadName.__init__", defArgs s_BadName, defBody s_BadName, defScope s_BadName, [(("__class__" : Str), cc_BadName)], cda_BadName⟩ : NdefX.NF).fd doc_BadName pm_BadName ct_BadName), osl_BadName⟩)
    (ci_BadName : PySem.W.codeIn K (.ref cda_BadName) "BadName.__init__" = true)
    (ce_BadName : K.lookup cc_BadName = some ⟨cl_BadName, cld_BadName, .cell (some (.ref c_BadName)), csl_BadName⟩)
    (co_BadName : K.lookup cda_BadName = some ⟨ccl_BadName, cdd_BadName, .fields vs_BadName, ccs_BadName⟩)
    (vs_BadName : vs_BadName[2]? = some (.str file_BadName tf_BadName))
    (fi_BadName : ((P.main.file : Str) == file_BadName) = true)
    (su_BadName : PySem.W.ks_superIn K c_BadName c_BadName "__init__" = some (some (.builtin "ValueError.__init__")))
    (ve_BadName : PySem.W.subIn K (.ref c_BadName) (.type "ValueError") = some true)
    (n_BadName_label : PySem.W.findIn K (.ref c_BadName) "label" = some none)
    (n_BadName_name : PySem.W.findIn K (.ref c_BadName) "name" = some none)
    (y_BookError_BookError : PySem.W.subIn K (.ref c_BookError) (.ref c_BookError) = some true)
    (y_BookError_OutOfRange : PySem.W.subIn K (.ref c_BookError) (.ref c_OutOfRange) = some false)
    (y_BookError_UnknownName : PySem.W.subIn K (.ref c_BookError) (.ref c_UnknownName) = some false)
    (y_BookError_BadName : PySem.W.subIn K (.ref c_BookError) (.ref c_BadName) = some false)
    (yv_BookError : PySem.W.subIn K (.ref c_BookError) (.type "ValueError") = some true)
    (y_OutOfRange_BookError : PySem.W.subIn K (.ref c_OutOfRange) (.ref c_BookError) = some true)
    (y_OutOfRange_OutOfRange : PySem.W.subIn K (.ref c_OutOfRange) (.ref c_OutOfRange) = some true)
    (y_OutOfRange_UnknownName : PySem.W.subIn K (.ref c_OutOfRange) (.ref c_UnknownName) = some false)
    (y_OutOfRange_BadName : PySem.W.subIn K (.ref c_OutOfRange) (.ref c_BadName) = some false)
    (yv_OutOfRange : PySem.W.subIn K (.ref c_OutOfRange) (.type "ValueError") = some true)
    (y_UnknownName_BookError : PySem.W.subIn K (.ref c_UnknownName) (.ref c_BookError) = some true)
    (y_UnknownName_OutOfRange : PySem.W.subIn K (.ref c_UnknownName) (.ref c_OutOfRange) = some false)
    (y_UnknownName_UnknownName : PySem.W.subIn K (.ref c_UnknownName) (.ref c_UnknownName) = some true)
    (y_UnknownName_BadName : PySem.W.subIn K (.ref c_UnknownName) (.ref c_BadName) = some false)
    (yv_UnknownName : PySem.W.subIn K (.ref c_UnknownName) (.type "ValueError") = some true)
    (y_BadName_BookError : PySem.W.subIn K (.ref c_BadName) (.ref c_BookError) = some true)
    (y_BadName_OutOfRange : PySem.W.subIn K (.ref c_BadName) (.ref c_OutOfRange) = some false)
    (y_BadName_UnknownName : PySem.W.subIn K (.ref c_BadName) (.ref c_UnknownName) = some false)
    (y_BadName_BadName : PySem.W.subIn K (.ref c_BadName) (.ref c_BadName) = some true)
    (yv_BadName : PySem.W.subIn K (.ref c_BadName) (.type "ValueError") = some true)
    (a_NAME_LENGTH : PySem.W.nsIn K mainGlobals "NAME_LENGTH" = some (some (.int 12 tk_NAME_LENGTH)))
    (a_PRODUCT_WORDS : PySem.W.nsIn K mainGlobals "PRODUCT_WORDS" = some (some (.ref q_PRODUCT_WORDS)))
    (l_PRODUCT_WORDS : K.lookup q_PRODUCT_WORDS = some ⟨.type "tuple", od_PRODUCT_WORDS, .seq its_PRODUCT_WORDS nn_PRODUCT_WORDS, sl_PRODUCT_WORDS⟩)
    (u_PRODUCT_WORDS : valsB v_PRODUCT_WORDS its_PRODUCT_WORDS.toList = true)
    (a_SCRIPT_WORDS : PySem.W.nsIn K mainGlobals "SCRIPT_WORDS" = some (some (.ref q_SCRIPT_WORDS)))
    (l_SCRIPT_WORDS : K.lookup q_SCRIPT_WORDS = some ⟨.type "tuple", od_SCRIPT_WORDS, .seq its_SCRIPT_WORDS nn_SCRIPT_WORDS, sl_SCRIPT_WORDS⟩)
    (u_SCRIPT_WORDS : valsB v_SCRIPT_WORDS its_SCRIPT_WORDS.toList = true)
    (z_len : PySem.W.nsIn K mainGlobals "len" = some none)
    (z_abs : PySem.W.nsIn K mainGlobals "abs" = some none)
    (z_range : PySem.W.nsIn K mainGlobals "range" = some none)
    (z_int : PySem.W.nsIn K mainGlobals "int" = some none)
    (z_isinstance : PySem.W.nsIn K mainGlobals "isinstance" = some none)
    (z_bool : PySem.W.nsIn K mainGlobals "bool" = some none)
    : ∃ fd : FuncData, (∀ (s : Shared) (u : Value), BindsTo s fd ⟨[u], []⟩ [("script", u)]) ∧ ∀ base : Heap, K.In base → base.Ns mainGlobals mg → FnOk P w K mg base (L2.CX P w) 5 fa fd ["script"] (sp_law K) := by
  let T : Txt K mg := {
    a_is_lower := f_is_lower, fd_is_lower := _, F_is_lower := fun_of l_is_lower c_is_lower k_is_lower, m_is_lower := PySem.W.mg_of X G a_is_lower, b_is_lower := (fun_of l_is_lower c_is_lower k_is_lower).bindsN fun _ _ _ _ _ _ us hl => match us, hl with | [_], _ => rfl,
    a_is_digit := f_is_digit, fd_is_digit := _, F_is_digit := fun_of l_is_digit c_is_digit k_is_digit, m_is_digit := PySem.W.mg_of X G a_is_digit, b_is_digit := (fun_of l_is_digit c_is_digit k_is_digit).bindsN fun _ _ _ _ _ _ us hl => match us, hl with | [_], _ => rfl,
    a_is_name := f_is_name, fd_is_name := _, F_is_name := fun_of l_is_name c_is_name k_is_name, m_is_name := PySem.W.mg_of X G a_is_name, b_is_name := (fun_of l_is_name c_is_name k_is_name).bindsN fun _ _ _ _ _ _ us hl => match us, hl with | [_], _ => rfl,
    a_check_name := f_check_name, fd_check_name := _, F_check_name := fun_of l_check_name c_check_name k_check_name, m_check_name := PySem.W.mg_of X G a_check_name, b_check_name := (fun_of l_check_name c_check_name k_check_name).bindsN fun _ _ _ _ _ _ us hl => match us, hl with | [_], _ => rfl,
    a_is_kept := f_is_kept, fd_is_kept := _, F_is_kept := fun_of l_is_kept c_is_kept k_is_kept, m_is_kept := PySem.W.mg_of X G a_is_kept, b_is_kept := (fun_of l_is_kept c_is_kept k_is_kept).bindsN fun _ _ _ _ _ _ us hl => match us, hl with | [_], _ => rfl,
    a__law_cell := f__law_cell, fd__law_cell := _, F__law_cell := fun_of l__law_cell c__law_cell k__law_cell, m__law_cell := PySem.W.mg_of X G a__law_cell, b__law_cell := (fun_of l__law_cell c__law_cell k__law_cell).bindsN fun _ _ _ _ _ _ us hl => match us, hl with | [_, _], _ => rfl,
    a__law_draw := f__law_draw, fd__law_draw := _, F__law_draw := fun_of l__law_draw c__law_draw k__law_draw, m__law_draw := PySem.W.mg_of X G a__law_draw, b__law_draw := (fun_of l__law_draw c__law_draw k__law_draw).bindsN fun _ _ _ _ _ _ us hl => match us, hl with | [_, _], _ => rfl,
    a__law_name := f__law_name, fd__law_name := _, F__law_name := fun_of l__law_name c__law_name k__law_name, m__law_name := PySem.W.mg_of X G a__law_name, b__law_name := (fun_of l__law_name c__law_name k__law_name).bindsN fun _ _ _ _ _ _ us hl => match us, hl with | [_, _], _ => rfl,
    a__law_kept := f__law_kept, fd__law_kept := _, F__law_kept := fun_of l__law_kept c__law_kept k__law_kept, m__law_kept := PySem.W.mg_of X G a__law_kept, b__law_kept := (fun_of l__law_kept c__law_kept k__law_kept).bindsN fun _ _ _ _ _ _ us hl => match us, hl with | [], _ => rfl,
    a__law_good := f__law_good, fd__law_good := _, F__law_good := fun_of l__law_good c__law_good k__law_good, m__law_good := PySem.W.mg_of X G a__law_good, b__law_good := (fun_of l__law_good c__law_good k__law_good).bindsN fun _ _ _ _ _ _ us hl => match us, hl with | [_], _ => rfl,
    a__law_told := f__law_told, fd__law_told := _, F__law_told := fun_of l__law_told c__law_told k__law_told, m__law_told := PySem.W.mg_of X G a__law_told, b__law_told := (fun_of l__law_told c__law_told k__law_told).bindsN fun _ _ _ _ _ _ us hl => match us, hl with | [_], _ => rfl,
    a_law := f_law, fd_law := _, F_law := fun_of l_law c_law k_law, m_law := PySem.W.mg_of X G a_law, b_law := (fun_of l_law c_law k_law).bindsN fun _ _ _ _ _ _ us hl => match us, hl with | [_], _ => rfl,
    c_BookError := c_BookError, m_BookError := PySem.W.mg_of X G a_BookError, e_BookError := ⟨⟨ga_BookError, gg_BookError, sb_BookError, hd_BookError, ha_BookError, spc, tkc, hm_BookError⟩, ty_BookError, se_BookError⟩,
    c_OutOfRange := c_OutOfRange, m_OutOfRange := PySem.W.mg_of X G a_OutOfRange, e_OutOfRange := ⟨⟨ga_OutOfRange, gg_OutOfRange, sb_OutOfRange, hd_OutOfRange, ha_OutOfRange, spc, tkc, hm_OutOfRange⟩, ty_OutOfRange, se_OutOfRange⟩,
    x_OutOfRange := ⟨fI_OutOfRange, cc_OutOfRange, cda_OutOfRange, _, _, _, _, _, _, ⟨⟨⟨nm_OutOfRange, q_OutOfRange, N_OutOfRange, bs_OutOfRange, _, sn_OutOfRange, sub_OutOfRange, ab_OutOfRange, col_OutOfRange, dd_OutOfRange, m0_OutOfRange, m1_OutOfRange, m2_OutOfRange, m3_OutOfRange, m5_OutOfRange, xL_OutOfRange, rfl⟩, sa_OutOfRange, sb_OutOfRange, ty_OutOfRange, kp_OutOfRange⟩, i_OutOfRange, ti_OutOfRange, ⟨_, _, _, ce_OutOfRange⟩, ⟨_, _, _, _, _, _, co_OutOfRange, vs_OutOfRange, fi_OutOfRange⟩, by decide +kernel, PySem.W.mg_none_of X G zsuper, se_OutOfRange, third, su_OutOfRange, ve_OutOfRange⟩, li_OutOfRange, ci_OutOfRange⟩,
    n_OutOfRange_label := n_OutOfRange_label,
    n_OutOfRange_value := n_OutOfRange_value,
    c_UnknownName := c_UnknownName, m_UnknownName := PySem.W.mg_of X G a_UnknownName, e_UnknownName := ⟨⟨ga_UnknownName, gg_UnknownName, sb_UnknownName, hd_UnknownName, ha_UnknownName, spc, tkc, hm_UnknownName⟩, ty_UnknownName, se_UnknownName⟩,
    x_UnknownName := ⟨fI_UnknownName, cc_UnknownName, cda_UnknownName, _, _, _, _, _, _, ⟨⟨⟨nm_UnknownName, q_UnknownName, N_UnknownName, bs_UnknownName, _, sn_UnknownName, sub_UnknownName, ab_UnknownName, col_UnknownName, dd_UnknownName, m0_UnknownName, m1_UnknownName, m2_UnknownName, m3_UnknownName, m5_UnknownName, xL_UnknownName, rfl⟩, sa_UnknownName, sb_UnknownName, ty_UnknownName, kp_UnknownName⟩, i_UnknownName, ti_UnknownName, ⟨_, _, _, ce_UnknownName⟩, ⟨_, _, _, _, _, _, co_UnknownName, vs_UnknownName, fi_UnknownName⟩, by decide +kernel, PySem.W.mg_none_of X G zsuper, se_UnknownName, third, su_UnknownName, ve_UnknownName⟩, li_UnknownName, ci_UnknownName⟩,
    n_UnknownName_label := n_UnknownName_label,
    n_UnknownName_name := n_UnknownName_name,
    c_BadName := c_BadName, m_BadName := PySem.W.mg_of X G a_BadName, e_BadName := ⟨⟨ga_BadName, gg_BadName, sb_BadName, hd_BadName, ha_BadName, spc, tkc, hm_BadName⟩, ty_BadName, se_BadName⟩,
    x_BadName := ⟨fI_BadName, cc_BadName, cda_BadName, _, _, _, _, _, _, ⟨⟨⟨nm_BadName, q_BadName, N_BadName, bs_BadName, _, sn_BadName, sub_BadName, ab_BadName, col_BadName, dd_BadName, m0_BadName, m1_BadName, m2_BadName, m3_BadName, m5_BadName, xL_BadName, rfl⟩, sa_BadName, sb_BadName, ty_BadName, kp_BadName⟩, i_BadName, ti_BadName, ⟨_, _, _, ce_BadName⟩, ⟨_, _, _, _, _, _, co_BadName, vs_BadName, fi_BadName⟩, by decide +kernel, PySem.W.mg_none_of X G zsuper, se_BadName, third, su_BadName, ve_BadName⟩, li_BadName, ci_BadName⟩,
    n_BadName_label := n_BadName_label,
    n_BadName_name := n_BadName_name,
    y_BookError_BookError := y_BookError_BookError,
    y_BookError_OutOfRange := y_BookError_OutOfRange,
    y_BookError_UnknownName := y_BookError_UnknownName,
    y_BookError_BadName := y_BookError_BadName,
    yv_BookError := yv_BookError,
    y_OutOfRange_BookError := y_OutOfRange_BookError,
    y_OutOfRange_OutOfRange := y_OutOfRange_OutOfRange,
    y_OutOfRange_UnknownName := y_OutOfRange_UnknownName,
    y_OutOfRange_BadName := y_OutOfRange_BadName,
    yv_OutOfRange := yv_OutOfRange,
    y_UnknownName_BookError := y_UnknownName_BookError,
    y_UnknownName_OutOfRange := y_UnknownName_OutOfRange,
    y_UnknownName_UnknownName := y_UnknownName_UnknownName,
    y_UnknownName_BadName := y_UnknownName_BadName,
    yv_UnknownName := yv_UnknownName,
    y_BadName_BookError := y_BadName_BookError,
    y_BadName_OutOfRange := y_BadName_OutOfRange,
    y_BadName_UnknownName := y_BadName_UnknownName,
    y_BadName_BadName := y_BadName_BadName,
    yv_BadName := yv_BadName,
    m_NAME_LENGTH := ⟨_, PySem.W.mg_of X G a_NAME_LENGTH⟩,
    q_PRODUCT_WORDS := q_PRODUCT_WORDS, m_PRODUCT_WORDS := PySem.W.mg_of X G a_PRODUCT_WORDS, t_PRODUCT_WORDS := fun H => tup_of l_PRODUCT_WORDS u_PRODUCT_WORDS,
    q_SCRIPT_WORDS := q_SCRIPT_WORDS, m_SCRIPT_WORDS := PySem.W.mg_of X G a_SCRIPT_WORDS, t_SCRIPT_WORDS := fun H => tup_of l_SCRIPT_WORDS u_SCRIPT_WORDS,
    z_len := PySem.W.mg_none_of X G z_len,
    z_abs := PySem.W.mg_none_of X G z_abs,
    z_range := PySem.W.mg_none_of X G z_range,
    z_int := PySem.W.mg_none_of X G z_int,
    z_isinstance := PySem.W.mg_none_of X G z_isinstance,
    z_bool := PySem.W.mg_none_of X G z_bool }
  have e := hfa.symm.trans T.m_law
  cases e
  exact ⟨_, fun s u => T.F_law.bindsA (ps := ["script"]) (fun _ _ _ _ _ _ us hl => match us, hl with | [_], _ => rfl) s [u] rfl, fun base _ _ => (ok_law T).mono (by decide)⟩
end My
open PySem PySem.W PyProof.Rows
set_option maxRecDepth 100000 in
set_option maxHeartbeats 0 in
theorem PySem.Challenge.cw_lendbook_k14_names_holds : PySem.Challenge.rw_lendbook_k14_names.Holds := by
  w_on; o_law; k_head; (case hw => w_witness2)
  k_fill
  refine LB.walk (l := PySem.Challenge.rw_lendbook_k14_names) (k := 5) rfl rfl ⟨rfl, by decide, by decide⟩ (fun w h Y => PySem.W.kIn_of Y) ?F
  case F =>
    intro w mg fa h KX G hmg
    refine' My.all_mk KX G hmg ?a_is_lower ?l_is_lower ?c_is_lower ?k_is_lower ?a_is_digit ?l_is_digit ?c_is_digit ?k_is_digit ?a_is_name ?l_is_name ?c_is_name ?k_is_name ?a_check_name ?l_check_name ?c_check_name ?k_check_name ?a_is_kept ?l_is_kept ?c_is_kept ?k_is_kept ?a__law_cell ?l__law_cell ?c__law_cell ?k__law_cell ?a__law_draw ?l__law_draw ?c__law_draw ?k__law_draw ?a__law_name ?l__law_name ?c__law_name ?k__law_name ?a__law_kept ?l__law_kept ?c__law_kept ?k__law_kept ?a__law_good ?l__law_good ?c__law_good ?k__law_good ?a__law_told ?l__law_told ?c__law_told ?k__law_told ?a_law ?l_law ?c_law ?k_law ?third ?zsuper ?spc ?tkc ?a_BookError ?ga_BookError ?gg_BookError ?sb_BookError ?hd_BookError ?ha_BookError ?hm_BookError ?ty_BookError ?se_BookError ?a_OutOfRange ?ga_OutOfRange ?gg_OutOfRange ?sb_OutOfRange ?hd_OutOfRange ?ha_OutOfRange ?hm_OutOfRange ?ty_OutOfRange ?se_OutOfRange ?xL_OutOfRange ?sa_OutOfRange ?kp_OutOfRange ?i_OutOfRange ?ti_OutOfRange ?li_OutOfRange ?ci_OutOfRange ?ce_OutOfRange ?co_OutOfRange ?vs_OutOfRange ?fi_OutOfRange ?su_OutOfRange ?ve_OutOfRange ?n_OutOfRange_label ?n_OutOfRange_value ?a_UnknownName ?ga_UnknownName ?gg_UnknownName ?sb_UnknownName ?hd_UnknownName ?ha_UnknownName ?hm_UnknownName ?ty_UnknownName ?se_UnknownName ?xL_UnknownName ?sa_UnknownName ?kp_UnknownName ?i_UnknownName ?ti_UnknownName ?li_UnknownName ?ci_UnknownName ?ce_UnknownName ?co_UnknownName ?vs_UnknownName ?fi_UnknownName ?su_UnknownName ?ve_UnknownName ?n_UnknownName_label ?n_UnknownName_name ?a_BadName ?ga_BadName ?gg_BadName ?sb_BadName ?hd_BadName ?ha_BadName ?hm_BadName ?ty_BadName ?se_BadName ?xL_BadName ?sa_BadName ?kp_BadName ?i_BadName ?ti_BadName ?li_BadName ?ci_BadName ?ce_BadName ?co_BadName ?vs_BadName ?fi_BadName ?su_BadName ?ve_BadName ?n_BadName_label ?n_BadName_name ?y_BookError_BookError ?y_BookError_OutOfRange ?y_BookError_UnknownName ?y_BookError_BadName ?yv_BookError ?y_OutOfRange_BookError ?y_OutOfRange_OutOfRange ?y_OutOfRange_UnknownName ?y_OutOfRange_BadName ?yv_OutOfRange ?y_UnknownName_BookError ?y_UnknownName_OutOfRange ?y_UnknownName_UnknownName ?y_UnknownName_BadName ?yv_UnknownName ?y_BadName_BookError ?y_BadName_OutOfRange ?y_BadName_UnknownName ?y_BadName_BadName ?yv_BadName ?a_NAME_LENGTH ?a_PRODUCT_WORDS ?l_PRODUCT_WORDS ?u_PRODUCT_WORDS ?a_SCRIPT_WORDS ?l_SCRIPT_WORDS ?u_SCRIPT_WORDS ?z_len ?z_abs ?z_range ?z_int ?z_isinstance ?z_bool
    (case a_is_lower => k_is)
    (case l_is_lower => k_is)
    (case c_is_lower => k_is)
    (case k_is_lower => k_is)
    (case a_is_digit => k_is)
    (case l_is_digit => k_is)
    (case c_is_digit => k_is)
    (case k_is_digit => k_is)
    (case a_is_name => k_is)
    (case l_is_name => k_is)
    (case c_is_name => k_is)
    (case k_is_name => k_is)
    (case a_check_name => k_is)
    (case l_check_name => k_is)
    (case c_check_name => k_is)
    (case k_check_name => k_is)
    (case a_is_kept => k_is)
    (case l_is_kept => k_is)
    (case c_is_kept => k_is)
    (case k_is_kept => k_is)
    (case a__law_cell => k_is)
    (case l__law_cell => k_is)
    (case c__law_cell => k_is)
    (case k__law_cell => k_is)
    (case a__law_draw => k_is)
    (case l__law_draw => k_is)
    (case c__law_draw => k_is)
    (case k__law_draw => k_is)
    (case a__law_name => k_is)
    (case l__law_name => k_is)
    (case c__law_name => k_is)
    (case k__law_name => k_is)
    (case a__law_kept => k_is)
    (case l__law_kept => k_is)
    (case c__law_kept => k_is)
    (case k__law_kept => k_is)
    (case a__law_good => k_is)
    (case l__law_good => k_is)
    (case c__law_good => k_is)
    (case k__law_good => k_is)
    (case a__law_told => k_is)
    (case l__law_told => k_is)
    (case c__law_told => k_is)
    (case k__law_told => k_is)
    (case a_law => k_is)
    (case l_law => k_is)
    (case c_law => k_is)
    (case k_law => k_is)
    (case third => k_is)
    (case zsuper => k_is)
    (case spc => k_is)
    (case tkc => k_is)
    (case a_BookError => k_is)
    (case ga_BookError => k_is)
    (case gg_BookError => k_is)
    (case sb_BookError => k_is)
    (case hd_BookError => k_is)
    (case ha_BookError => k_is)
    (case hm_BookError => k_is)
    (case ty_BookError => k_is)
    (case se_BookError => k_is)
    (case a_OutOfRange => k_is)
    (case ga_OutOfRange => k_is)
    (case gg_OutOfRange => k_is)
    (case sb_OutOfRange => k_is)
    (case hd_OutOfRange => k_is)
    (case ha_OutOfRange => k_is)
    (case hm_OutOfRange => k_is)
    (case ty_OutOfRange => k_is)
    (case se_OutOfRange => k_is)
    (case xL_OutOfRange => k_is)
    (case sa_OutOfRange => k_is)
    (case kp_OutOfRange => k_is)
    (case i_OutOfRange => k_is)
    (case ti_OutOfRange => k_is)
    (case li_OutOfRange => k_is)
    (case ci_OutOfRange => k_is)
    (case ce_OutOfRange => k_is)
    (case co_OutOfRange => k_is)
    (case vs_OutOfRange => rfl)
    (case fi_OutOfRange => decide +kernel)
    (case su_OutOfRange => ks_is)
    (case ve_OutOfRange => k_is)
    (case n_OutOfRange_label => k_is)
    (case n_OutOfRange_value => k_is)
    (case a_UnknownName => k_is)
    (case ga_UnknownName => k_is)
    (case gg_UnknownName => k_is)
    (case sb_UnknownName => k_is)
    (case hd_UnknownName => k_is)
    (case ha_UnknownName => k_is)
    (case hm_UnknownName => k_is)
    (case ty_UnknownName => k_is)
    (case se_UnknownName => k_is)
    (case xL_UnknownName => k_is)
    (case sa_UnknownName => k_is)
    (case kp_UnknownName => k_is)
    (case i_UnknownName => k_is)
    (case ti_UnknownName => k_is)
    (case li_UnknownName => k_is)
    (case ci_UnknownName => k_is)
    (case ce_UnknownName => k_is)
    (case co_UnknownName => k_is)
    (case vs_UnknownName => rfl)
    (case fi_UnknownName => decide +kernel)
    (case su_UnknownName => ks_is)
    (case ve_UnknownName => k_is)
    (case n_UnknownName_label => k_is)
    (case n_UnknownName_name => k_is)
    (case a_BadName => k_is)
    (case ga_BadName => k_is)
    (case gg_BadName => k_is)
    (case sb_BadName => k_is)
    (case hd_BadName => k_is)
    (case ha_BadName => k_is)
    (case hm_BadName => k_is)
    (case ty_BadName => k_is)
    (case se_BadName => k_is)
    (case xL_BadName => k_is)
    (case sa_BadName => k_is)
    (case kp_BadName => k_is)
    (case i_BadName => k_is)
    (case ti_BadName => k_is)
    (case li_BadName => k_is)
    (case ci_BadName => k_is)
    (case ce_BadName => k_is)
    (case co_BadName => k_is)
    (case vs_BadName => rfl)
    (case fi_BadName => decide +kernel)
    (case su_BadName => ks_is)
    (case ve_BadName => k_is)
    (case n_BadName_label => k_is)
    (case n_BadName_name => k_is)
    (case y_BookError_BookError => k_is)
    (case y_BookError_OutOfRange => k_is)
    (case y_BookError_UnknownName => k_is)
    (case y_BookError_BadName => k_is)
    (case yv_BookError => k_is)
    (case y_OutOfRange_BookError => k_is)
    (case y_OutOfRange_OutOfRange => k_is)
    (case y_OutOfRange_UnknownName => k_is)
    (case y_OutOfRange_BadName => k_is)
    (case yv_OutOfRange => k_is)
    (case y_UnknownName_BookError => k_is)
    (case y_UnknownName_OutOfRange => k_is)
    (case y_UnknownName_UnknownName => k_is)
    (case y_UnknownName_BadName => k_is)
    (case yv_UnknownName => k_is)
    (case y_BadName_BookError => k_is)
    (case y_BadName_OutOfRange => k_is)
    (case y_BadName_UnknownName => k_is)
    (case y_BadName_BadName => k_is)
    (case yv_BadName => k_is)
    (case a_NAME_LENGTH => k_is)
    (case a_PRODUCT_WORDS => k_is)
    (case l_PRODUCT_WORDS => k_is)
    (case u_PRODUCT_WORDS => decide +kernel)
    (case a_SCRIPT_WORDS => k_is)
    (case l_SCRIPT_WORDS => k_is)
    (case u_SCRIPT_WORDS => decide +kernel)
    (case z_len => k_is)
    (case z_abs => k_is)
    (case z_range => k_is)
    (case z_int => k_is)
    (case z_isinstance => k_is)
    (case z_bool => k_is)
