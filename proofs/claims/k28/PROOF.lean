import PyProof.Rows.All
import Wide.All
import OpenK.AllK
import Wide.FinOn
import HandS.ForExc
import HandS.Comp
import HandS.Defaults
import HandS.IsInst
import HandS.Wide
import HandS.EndBits
import HandS.TryMany
import HandS.ExcField
import HandS.ExcInit
import HandS.Evl
import HandS.Gcd
import HandS.Nested
import HandS.FStr
import KE.KExcSuper
import HandS.ExcIs
import HandS.More
import HandS.Walk
import HandS.Zip
import HandS.Dict
import HandS.DictComp
import HandS.WordsDict
import HandS.SetFor
import HandS.Text
import HandS.Iter
import KE.IntTextLaws
import KE.KxField
import HandS.MakeKwOnly
import HandS.WideBits
import HandS.Style
import HandS.StrMore
import PyProof.Rows.StrPadFill
import PyProof.Rows.StrCut
import KE.GoesMore
import KE.GoesZip
import PySem.Challenge.RW_lendbook_k28_products_are_shown
set_option Elab.async false
set_option linter.all false
set_option maxRecDepth 100000
set_option maxHeartbeats 4000000
/-! own small rules over the hand layer -/
namespace LB
open PySem PySem.Spec PyProof.Rows L2
theorem bt_int : bootBuiltins "int" = some (.type "int") := by decide +kernel
theorem bt_bool : bootBuiltins "bool" = some (.type "bool") := by decide +kernel
theorem bt_str : bootBuiltins "str" = some (.type "str") := by decide +kernel
theorem bt_list : bootBuiltins "list" = some (.type "list") := by decide +kernel
theorem bt_tuple : bootBuiltins "tuple" = some (.type "tuple") := by decide +kernel
theorem bt_dict : bootBuiltins "dict" = some (.type "dict") := by decide +kernel
theorem bt_set : bootBuiltins "set" = some (.type "set") := by decide +kernel
theorem bt_range : bootBuiltins "range" = some (.type "range") := by decide +kernel
theorem bt_len : bootBuiltins "len" = some (.builtin "len") := by decide +kernel
theorem bt_abs : bootBuiltins "abs" = some (.builtin "abs") := by decide +kernel
theorem bt_isinstance : bootBuiltins "isinstance" = some (.builtin "isinstance") := by decide +kernel
theorem bt_sum : bootBuiltins "sum" = some (.builtin "sum") := by decide +kernel
theorem bt_min : bootBuiltins "min" = some (.builtin "min") := by decide +kernel
theorem bt_max : bootBuiltins "max" = some (.builtin "max") := by decide +kernel
theorem bt_sorted : bootBuiltins "sorted" = some (.builtin "sorted") := by decide +kernel
theorem bt_divmod : bootBuiltins "divmod" = some (.builtin "divmod") := by decide +kernel
theorem bt_any : bootBuiltins "any" = some (.builtin "any") := by decide +kernel
theorem bt_ValueError : bootBuiltins "ValueError" = some (.type "ValueError") := by decide +kernel
theorem bt_all : bootBuiltins "all" = some (.builtin "all") := by decide +kernel

/-! ### sizes of ints: i lies within n bits -/
structure Sz (n : Nat) (i : Int) : Prop where
  lt : i.natAbs < 2 ^ n
theorem Sz.log {n : Nat} {i : Int} (h : Sz n i) : i.natAbs.log2 ≤ n := by
  by_cases h0 : i.natAbs = 0
  · rw [h0]; exact Nat.zero_le _
  · exact Nat.le_of_lt ((Nat.log2_lt h0).mpr h.lt)
theorem Sz.zero (n : Nat) : Sz n 0 := ⟨Nat.pow_pos (by decide)⟩
theorem Sz.mono {m n : Nat} {i : Int} (h : Sz m i) (l : m ≤ n) : Sz n i := ⟨Nat.lt_of_lt_of_le h.lt (Nat.pow_le_pow_right (by decide) l)⟩
theorem Sz.add {m n : Nat} {i j : Int} (a : Sz m i) (b : Sz n j) : Sz (m + n + 1) (i + j) := by
  refine ⟨Nat.lt_of_le_of_lt (Int.natAbs_add_le i j) ?_⟩
  have h1 := (a.mono (Nat.le_add_right m n)).lt
  have h2 := (b.mono (Nat.le_add_left n m)).lt
  rw [Nat.pow_succ]
  omega
theorem Sz.neg {n : Nat} {i : Int} (a : Sz n i) : Sz n (-i) := ⟨by rw [Int.natAbs_neg]; exact a.lt⟩
theorem Sz.sub {m n : Nat} {i j : Int} (a : Sz m i) (b : Sz n j) : Sz (m + n + 1) (i - j) := by
  rw [Int.sub_eq_add_neg]
  exact a.add b.neg
theorem Sz.mul {m n : Nat} {i j : Int} (a : Sz m i) (b : Sz n j) : Sz (m + n) (i * j) := by
  refine ⟨?_⟩
  rw [Int.natAbs_mul, Nat.pow_add]
  exact Nat.mul_lt_mul'' a.lt b.lt
theorem Sz.le {n : Nat} {i j : Int} (a : Sz n j) (h : i.natAbs ≤ j.natAbs) : Sz n i := ⟨Nat.lt_of_le_of_lt h a.lt⟩
theorem Sz.div {n : Nat} {i j : Int} (a : Sz n i) : Sz n (i / j) := a.le (Int.natAbs_ediv_le_natAbs i j)
theorem Sz.mod {n : Nat} {i j : Int} (b : Sz n j) (h : 0 < j) : Sz n (i % j) := b.le (by
  have h1 := Int.emod_nonneg i (b := j) (by omega)
  have h2 := Int.emod_lt_of_pos i h
  omega)
theorem Sz.nn {n : Nat} {i j : Int} (b : Sz n j) (h0 : 0 ≤ i) (h : i ≤ j) : Sz n i := b.le (by omega)
theorem Sz.absv {n : Nat} {i : Int} (a : Sz n i) : Sz n (if i < 0 then -i else i) := by
  by_cases h : i < 0
  · rw [if_pos h]; exact a.neg
  · rw [if_neg h]; exact a
theorem Sz.bits {z : Int} {n : Nat} (h : Builtin.Int.intBits z ≤ n) : Sz n z := by
  refine ⟨?_⟩
  unfold Builtin.Int.intBits at h
  by_cases h0 : z = 0
  · subst h0
    exact Nat.pos_of_ne_zero (by simp)
  · have h1 : ¬ z.natAbs = 0 := by omega
    have h2 : z.natAbs.log2 + 1 ≤ n := by
      split at h
      · rename_i e
        first
          | exact absurd (by simpa using e) h0
          | omega
      · exact h
    exact (Nat.log2_lt h1).mp (by omega)

/-! ### products and quotients of any size -/
/-- a product that fits -/
def CM (i j : Int) : Prop := i.natAbs.log2 + j.natAbs.log2 < 134000000
theorem CM.ok {i j : Int} (h : CM i j) : IntMulOk i j := by
  have b : ∀ x : Int, Builtin.Int.intBits x ≤ x.natAbs.log2 + 1 := fun x => by
    unfold Builtin.Int.intBits
    split <;> omega
  have h1 := b i
  have h2 := b j
  have h3 : i.natAbs.log2 + j.natAbs.log2 < 134000000 := h
  have e := bitsLine_eq
  intro z
  have z2 := (Bool.and_eq_true_iff.mp z).2
  unfold Builtin.Int.intTooBig at z2
  have z3 := of_decide_eq_true z2
  rw [e] at z3
  omega
theorem CM.of {m n : Nat} {i j : Int} (a : Sz m i) (b : Sz n j) (h : m + n < 134000000 := by decide) : CM i j := by
  have h1 := a.log
  have h2 := b.log
  unfold CM
  omega
/-- a positive divisor of less than 9000 bits -/
def CD (_ j : Int) : Prop := 0 < j ∧ j.natAbs.log2 < 9000
theorem CD.of {n : Nat} {i j : Int} (h : 0 < j) (b : Sz n j) (hn : n < 9000 := by decide) : CD i j := ⟨h, Nat.lt_of_le_of_lt b.log hn⟩
theorem CM.of2 {m n : Nat} {i j : Int} (a : Sz m i) (b : Sz n j) (h : m + n < 134000000) : CM i j := CM.of a b h
theorem CD.of2 {n : Nat} {i j : Int} (b : Sz n j) (h : 0 < j) (hn : n < 9000) : CD i j := CD.of h b hn
theorem log2_mono {m n : Nat} (h : m ≤ n) : m.log2 ≤ n.log2 := by
  by_cases h0 : m = 0
  · rw [h0]; exact Nat.zero_le _
  · exact (Nat.le_log2 (by omega)).mpr (Nat.le_trans (Nat.log2_self_le h0) h)
theorem CM.rest {t b : Int} (c : CD t b) : CM 2 (t - t / b * b) := by
  obtain ⟨c1, c2⟩ := c
  have e : t - t / b * b = t % b := by
    have := Int.mul_ediv_add_emod t b
    rw [Int.mul_comm b] at this
    omega
  have h1 := Int.emod_nonneg t (b := b) (by omega)
  have h2 := Int.emod_lt_of_pos t c1
  have h3 := log2_mono (m := (t % b).natAbs) (n := b.natAbs) (by omega)
  show Nat.log2 2 + _ < _
  have h4 : Nat.log2 2 = 1 := by decide +kernel
  rw [e]
  omega
section
variable {X : Cx}
theorem op_mulB : OpR X (binaryOp .Mult) (rI CM fun i j => .int (i * j)) := opI fun _ _ _ _ _ _ _ hc q => mul_int q hc.ok
theorem op_fdivB : OpR X (binaryOp .FloorDiv) (rI CD fun i j => .int (i / j)) := op_fdivW
end

/-! ### the script's cells -/
def cell (ns : List Int) (i : Nat) : Int := ns.getD i 0
def Bits (ns : List Int) : Prop := ∀ z ∈ ns, Builtin.Int.intBits z ≤ 1048576
theorem cell_sz {ns : List Int} (h : Bits ns) (i : Nat) : Sz 1048576 (cell ns i) := by
  unfold cell
  rw [List.getD_eq_getElem?_getD]
  cases e : ns[i]? with
  | none => exact Sz.zero _
  | some z => exact Sz.bits (h z (List.mem_of_getElem? e))

theorem atI_map_cell {ns : List Int} {j : Nat} (h : j < ns.length) : atI (ns.map V.int) ((j : Nat) : Int) = some (V.int (cell ns j)) := by
  refine atI_nat ?_
  rw [List.getElem?_map, List.getElem?_eq_getElem h]
  unfold cell
  rw [List.getD_eq_getElem?_getD, List.getElem?_eq_getElem h]
  rfl
/-- the answer of isinstance(x, int) and not isinstance(x, bool), by the kind of x -/
def wholeV : V → Option Bool
  | .int _ => some true
  | .bl _ => some false
  | .str _ => some false
  | .non => some false
  | _ => none

/-! ### heaps that grow -/
theorem same_new {H H' : Hp} {p : Addr} {o : HO} (s : Same H H') (h : H' p = none) : Same H (upd H' p o) := fun b u e => by
  rw [upd_ne (ne_of_none (s b u e) h)]
  exact s b u e
theorem same_tup {K : PySem.W.Frag} {H H' : Hp} {a : Addr} {xs : List V} (e : Same H H') (h : SqT K H a xs) : SqT K H' a xs := Evl.ex_t e h
theorem same_lst {K : PySem.W.Frag} {H H' : Hp} {a : Addr} {xs : List V} (e : Same H H') (h : SqL K H a xs) : SqL K H' a xs := Evl.ex_l e h
theorem t_of {K : PySem.W.Frag} {H : Hp} {a : Addr} {xs : List V} (h : H a = some (.tup xs)) : SqT K H a xs := Or.inl (Or.inl h)
theorem l_of {K : PySem.W.Frag} {H : Hp} {a : Addr} {xs : List V} (h : H a = some (.lst xs)) : SqL K H a xs := Or.inl (Or.inl h)
theorem lst_upd {K : PySem.W.Frag} {H : Hp} {a p : Addr} {o : HO} {xs : List V} (e : H p = none) (h : SqL K H a xs) : SqL K (upd H p o) a xs := same_lst (same_new (Same.refl H) e) h
theorem tup_upd {K : PySem.W.Frag} {H : Hp} {a p : Addr} {o : HO} {xs : List V} (e : H p = none) (h : SqT K H a xs) : SqT K (upd H p o) a xs := same_tup (same_new (Same.refl H) e) h
/-- a law's promise: a list of at most 63 ints of at most 2^20 bits each is handed in, True comes out -/
def sp_law (K : PySem.W.Frag) : Sp := fun vs H Q _ => ∃ (a : Addr) (ns : List Int), vs = [.ref a] ∧ SqL K H a (ns.map V.int) ∧ ns.length ≤ 63 ∧ Bits ns ∧ ∀ H', Q (.bl true) H'
theorem passX {X : Cx} : Passes (L2.CX X.prog X.w) X E0 := fun _ _ _ _ _ _ _ h => by
  obtain ⟨_, _, _, _, _, _, _, _, _, _, _, _, z⟩ := h
  exact z.elim
theorem passXS {X : Cx} (σ : L2.St) : PassesAt (L2.CX X.prog X.w) X σ ((fun _ => E0 : L2.St → XK) σ) := fun _ _ _ _ _ _ h => by
  obtain ⟨_, _, _, _, _, _, _, _, _, _, _, _, z⟩ := h
  exact z.elim
theorem walk {l : PySem.W.OpenLaw} {k : Nat} {q : Program} {loose : List Str} {XP : (Str → Option Value) → Heap → Prop} {YP : World → Heap → Prop} {d : DefRec} {K : Params → PySem.W.Frag} (hn : l.most = some 63) (hdf : d.params.defaults = [])
    (hr : Room k callerA) (hY : ∀ (w : World) (h : Heap), YP w h → (K w.params).In h)
    (F : ∀ (w : World) (mg : Str → Option Value) (fa : Addr) (h : Heap), (K w.params).In h → h.Ns mainGlobals mg → mg d.name = some (.ref fa) →
      ∃ fd : FuncData, (∀ (s : Shared) (u : Value), BindsTo s fd ⟨[u], []⟩ [("script", u)]) ∧ ∀ base : Heap, (K w.params).In base → base.Ns mainGlobals mg → FnOk l.prog w (K w.params) mg base (L2.CX l.prog w) k fa fd ["script"] (sp_law (K w.params))) :
    PySem.W.WalkO q loose XP YP l.row.toRowW d [] (fun f vs => PySem.call f vs) :=
  L2.walk_ofB (n := 63) (k := k) (x := "script") (CX := fun w => L2.CX l.prog w) (sp := fun w => sp_law (K w.params)) hn (by decide) hdf hr hY F (fun _ _ a ns hl hb _ hS => ⟨a, ns, rfl, hS, hl, hb, fun _ => rfl⟩) fun _ _ _ _ _ h => by
    obtain ⟨_, _, _, _, _, _, _, _, _, _, _, _, z⟩ := h
    exact z.elim
/-- a def without defaults, as the top leaves it -/
theorem fun_of {K : PySem.W.Frag} {x qual : Str} {pa : Arguments} {bd : List Stmt} {sc : Scope} {f : Addr} {oc : Value} {od an : Option Addr} {osl : Array (Option Value)} {kV doc pm cdv ct : Value}
    (l : K.lookup f = some ⟨oc, od, .func (PySem.W.fnOf x qual pa bd sc .none kV doc pm an cdv ct), osl⟩) (c : PySem.W.codeIn K cdv qual = true) (k : PySem.W.keepIn K (.ref f) = true) :
    FunD K x qual pa bd sc [] [] f (PySem.W.fnOf x qual pa bd sc .none kV doc pm an cdv ct) := ⟨⟨oc, od, .none, kV, doc, pm, an, cdv, ct, osl, rfl, l, c, .inl ⟨rfl, rfl⟩, .inl rfl⟩, k⟩
/-! ### items by their place -/
section
variable {K : PySem.W.Frag} {H : Hp} {p : Addr} {xs : List V} {i : Int} {v : V} {Q : VK}
theorem ixT_go (h : SqT K H p xs) (e : atI xs i = some v) (q : Q v H) : rIxT K (.ref p) (.int i) H Q := ⟨p, xs, i, v, rfl, rfl, h, e, q⟩
theorem ixL_go (h : SqL K H p xs) (e : atI xs i = some v) (q : Q v H) : rIxL K (.ref p) (.int i) H Q := ⟨p, xs, i, v, rfl, rfl, h, e, q⟩
theorem ixUT_go (h : SqT K H p xs) (e : atI xs i = some v) (q : Q v H) : rIx K (.ref p) (.int i) H Q := .inr (.inl (ixT_go h e q))
theorem ixUL_go (h : SqL K H p xs) (e : atI xs i = some v) (q : Q v H) : rIx K (.ref p) (.int i) H Q := .inl (ixL_go h e q)
end
/-! ### ways -/
theorem iteD {p A B : Prop} [Decidable p] (h1 : p → A) (h2 : ¬ p → B) : if decide p = true then A else B := by
  by_cases h : p
  · rw [decide_eq_true h]; exact iteT (h1 h)
  · rw [decide_eq_false h]; exact iteF (h2 h)
theorem iteDN {p A B : Prop} [Decidable p] (h1 : ¬ p → A) (h2 : p → B) : if (!decide p) = true then A else B := by
  by_cases h : p
  · rw [decide_eq_true h]; exact iteF (h2 h)
  · rw [decide_eq_false h]; exact iteT (h1 h)
theorem iteI {x y : Int} {A B : Prop} (h1 : x = y → A) (h2 : x ≠ y → B) : if decide (V.int x = V.int y) = true then A else B :=
  iteD (fun h => h1 (V.int.inj h)) fun h => h2 fun e => h (congrArg V.int e)
theorem iteIN {x y : Int} {A B : Prop} (h1 : x ≠ y → A) (h2 : x = y → B) : if (!decide (V.int x = V.int y)) = true then A else B :=
  iteDN (fun h => h1 fun e => h (congrArg V.int e)) fun h => h2 (V.int.inj h)
theorem iteS {x y : Str} {A B : Prop} (h1 : x = y → A) (h2 : x ≠ y → B) : if decide (V.str x = V.str y) = true then A else B :=
  iteD (fun h => h1 (V.str.inj h)) fun h => h2 fun e => h (congrArg V.str e)
theorem iteSN {x y : Str} {A B : Prop} (h1 : x ≠ y → A) (h2 : x = y → B) : if (!decide (V.str x = V.str y)) = true then A else B :=
  iteDN (fun h => h1 fun e => h (congrArg V.str e)) fun h => h2 (V.str.inj h)
theorem iteLen {xs : List V} {y : Int} {A B : Prop} (e : ((xs.length : Nat) : Int) = y) (h : A) : if decide (V.int ((xs.length : Nat) : Int) = V.int y) = true then A else B := by
  subst e
  rw [decide_eq_true rfl]
  exact iteT h
theorem iteLenN {xs : List V} {y : Int} {A B : Prop} (e : ((xs.length : Nat) : Int) = y) (h : B) : if (!decide (V.int ((xs.length : Nat) : Int) = V.int y)) = true then A else B := by
  subst e
  rw [decide_eq_true rfl]
  exact iteF h
theorem iteB {b : Bool} {A B : Prop} (h1 : b = true → A) (h2 : b = false → B) : if b = true then A else B := by
  cases b
  · exact iteF (h2 rfl)
  · exact iteT (h1 rfl)
theorem iteBN {b : Bool} {A B : Prop} (h1 : b = false → A) (h2 : b = true → B) : if (!b) = true then A else B := by
  cases b
  · exact iteT (h1 rfl)
  · exact iteF (h2 rfl)
theorem q_int {Q : VK} {x y : Int} {H : Hp} (q : Q (.int x) H) (e : x = y) : Q (.int y) H := e ▸ q
theorem q_bl {Q : VK} {x y : Bool} {H : Hp} (q : Q (.bl x) H) (e : x = y) : Q (.bl y) H := e ▸ q
/-- a statement whose ways meet: P holds behind each of them -/
def tCut (t : TS) : TS := fun D σ H => ∃ W : L2.St → Hp → Prop, t { D with nx := W } σ H ∧ ∀ σ' H', W σ' H' → D.nx σ' H'
theorem ps_cut {X : Cx} {st : Stmt} {t : TS} (h : PS X st t) : PS X st (tCut t) := by
  refine ⟨fun pins s σ H D I hw => ?_⟩
  obtain ⟨W, h1, h2⟩ := hw
  refine thn (h.run pins s σ H _ I h1) fun f s' q => ?_
  cases f with
  | next =>
    obtain ⟨σ', H', I', q'⟩ := q
    exact ⟨σ', H', I', h2 σ' H' q'⟩
  | brk => exact q
  | cont => exact q
  | ret u => exact q
/-! ### what the top has written -/
def relB : V → Value → Bool
  | .non, .none => true
  | .bl b, .bool c => b == c
  | .int i, .int j _ => i == j
  | .str x, .str y _ => x == y
  | .ref a, .ref b => a == b
  | .ty n, .type m => n == m
  | _, _ => false
theorem relB_ok : ∀ {v : V} {u : Value}, relB v u = true → RelV v u
  | .non, .none, _ => rfl
  | .bl b, .bool c, h => by
    have e : b = c := by simpa [relB] using h
    rw [e]; exact rfl
  | .int i, .int j t, h => by
    have e : i = j := by simpa [relB] using h
    rw [e]; exact ⟨t, rfl⟩
  | .str x, .str y t, h => by
    have e : x = y := by simpa [relB] using h
    rw [e]; exact ⟨t, rfl⟩
  | .ref a, .ref b, h => by
    have e : a = b := by simpa [relB] using h
    rw [e]; exact rfl
  | .ty n, .type m, h => by
    have e : n = m := by simpa [relB] using h
    rw [e]; exact rfl
def valsB : List V → List Value → Bool
  | [], [] => true
  | v :: vs, u :: us => relB v u && valsB vs us
  | _, _ => false
theorem valsB_ok : ∀ {vs : List V} {us : List Value}, valsB vs us = true → Vals vs us
  | [], [], _ => .nil
  | v :: vs, u :: us, h => by
    have h2 := Bool.and_eq_true_iff.mp h
    exact .cons (relB_ok h2.1) (valsB_ok h2.2)
  | [], _ :: _, h => by cases h
  | _ :: _, [], h => by cases h
theorem tup_of {K : PySem.W.Frag} {H : Hp} {a : Addr} {od : Option Addr} {its : Array Value} {n : Nat} {sl : Array (Option Value)} {xs : List V} (l : K.lookup a = some ⟨.type "tuple", od, .seq its n, sl⟩) (v : valsB xs its.toList = true) (h : xs.length ≤ 1000 := by decide) : SqT K H a xs := by
  have r := valsB_ok v
  refine .inr ⟨_, its, n, l, rfl, rfl, ?_, r⟩
  have e : its.size = xs.length := by rw [r.length]; simp
  rw [e, sizeLine_eq]
  omega
/-- a def with defaults -/
theorem fun_ofD {K : PySem.W.Frag} {x qual : Str} {pa : Arguments} {bd : List Stmt} {sc : Scope} {f t : Addr} {oc : Value} {od an odt : Option Addr} {osl slt : Array (Option Value)} {kV doc pm cdv ct : Value} {its : Array Value} {n : Nat} {dvs : List V}
    (l : K.lookup f = some ⟨oc, od, .func (PySem.W.fnOf x qual pa bd sc (.ref t) kV doc pm an cdv ct), osl⟩) (c : PySem.W.codeIn K cdv qual = true) (k : PySem.W.keepIn K (.ref f) = true)
    (lt : K.lookup t = some ⟨.type "tuple", odt, .seq its n, slt⟩) (v : valsB dvs its.toList = true) (hd : dvs ≠ [] := by intro z; cases z) :
    FunD K x qual pa bd sc dvs [] f (PySem.W.fnOf x qual pa bd sc (.ref t) kV doc pm an cdv ct) := ⟨⟨oc, od, _, kV, doc, pm, an, cdv, ct, osl, rfl, l, c, .inr ⟨hd, t, _, its.toList, n, rfl, lt, by simp, valsB_ok v⟩, .inl rfl⟩, k⟩
section
variable {X : Cx} {CX : CXT} {k : Nat} {f : Addr} {fd : FuncData} {ps : List Str} {sp : Sp} {E : L2.St → XK} {x : Str} {p pos : Pos} {e : Expr} {es : List Expr} {t : TA} {dvs : List V}
def tCallD (sp : Sp) (dvs : List V) (E : L2.St → XK) (t : TA) : TE := fun σ H Q => t σ H fun vs H1 => sp (vs ++ dvs) H1 Q (E σ)
/-- f(e, ..), the defaults dvs fill up -/
theorem pe_callSD (F : FnOk X.prog X.w X.K X.mg X.base CX k f fd ps sp) (hr : Room k X.A) (hg : Gl X x) (hm : X.mg x = some (.ref f)) (hk : PySem.W.keepIn X.K (.ref f) = true) (hb : ∃ ds, Vals dvs ds ∧ Binds X.K fd ps ds) (hx : ∀ σ, PassesAt CX X σ (E σ))
    (ha : PA X (e :: es) t) (hdb : (x == ("__debug__" : Str)) = false := by decide) (he : starEach (e :: es) X.env = (false, eval e X.env) :: starEach es X.env := by rfl) (hpl : (backTo pos (starEach es X.env)).any (·.1) = false := by rfl) :
    PE X (.Call (.Name x p) (e :: es) [] pos) (tCallD sp dvs E t) := by
  obtain ⟨ds, hd, hb⟩ := hb
  refine ⟨fun pins s σ H Q I h => ?_⟩
  refine wpAny_Call_Name_kw (ld_glob I hg hm ?_ hdb)
  refine PySem.W.callWith_K (h₀ := X.base) I.ok.mod.kin hk (thn (ha.run pos pins s σ H _ I h) fun us s1 hh => ?_) he hpl
  obtain ⟨vs, H1, I1, r, q⟩ := hh
  have r2 : Vals (vs ++ dvs) (us ++ ds) := r.append hd
  refine ⟨I1.kIn, ?_⟩
  show wpAny _ _ (call (.ref f) us) _ _ _
  refine wpAny_call (codeAny_mono (F.run X.A X.stack s1 H1 ⟨us, []⟩ (us ++ ds) (vs ++ dvs) Q (E σ) hr I1.env0 (hb s1 us I1.kIn (r2.length.symm.trans (F.len _ _ _ _ q))) r2 q) fun rr s' hq => ?_)
  cases rr with
  | error e => exact hx σ pins H1 s1 e s' I1 hq
  | ok fl =>
    cases fl with
    | ret u => exact I1.after hq
    | next => exact False.elim hq
    | brk => exact False.elim hq
    | cont => exact False.elim hq
end
/-- one that stays behind a wall: nothing steps into it -/
structure Wall (p : Prop) : Prop where
  get : True → p
theorem wall {p : Prop} (h : p) : Wall p := ⟨fun _ => h⟩
theorem Wall.in_ {p q : Prop} (h : p → q) : Wall p → q := fun k => h (k.get trivial)
/-! ### == of flat lists and tuples -/
def pd : V → PyData
  | .bl b => .bool b
  | .int i => .int i
  | .str x => .str x
  | _ => .none
def okS (x : Str) : Bool := x.cps.toList.all fun c => Nat.blt c 0x110000
theorem okS_ok {x : Str} (h : okS x = true) : PyData.strOk x = true := by
  unfold PyData.strOk
  unfold okS at h
  rw [Array.all_toList] at h
  rw [← h]
  congr 1
  funext c
  show decide (c < 1114112) = Nat.blt c 1114112
  rw [Bool.eq_iff_iff, decide_eq_true_iff, Nat.blt_eq]
def flatS : V → Bool
  | .non => true
  | .bl _ => true
  | .int _ => true
  | .str x => okS x
  | _ => false
def eqL : List V → List V → Bool
  | [], [] => true
  | x :: xs, y :: ys => eqV x y && eqL xs ys
  | _, _ => false
theorem eqL_self : ∀ {xs : List V}, xs.all flatS = true → eqL xs xs = true
  | [], _ => rfl
  | x :: xs, h => by
    have h2 := Bool.and_eq_true_iff.mp (List.all_cons .. ▸ h)
    refine Bool.and_eq_true_iff.mpr ⟨?_, eqL_self h2.2⟩
    cases x <;> first | (exact absurd (show false = true from h2.1) Bool.false_ne_true) | simp [eqV]
theorem dp_pd {K : PySem.W.Frag} {H : Hp} : ∀ {x : V}, flatS x = true → Dp K H x (pd x)
  | .non, _ => .non
  | .bl b, _ => .bl b
  | .int i, _ => .int i
  | .str x, _ => .str x
  | .byt _, h => absurd (show false = true from h) Bool.false_ne_true
  | .flt _, h => absurd (show false = true from h) Bool.false_ne_true
  | .ref _, h => absurd (show false = true from h) Bool.false_ne_true
  | .ty _, h => absurd (show false = true from h) Bool.false_ne_true
theorem dpAll_pd {K : PySem.W.Frag} {H : Hp} : ∀ {xs : List V}, xs.all flatS = true → DpAll K H xs (xs.map pd)
  | [], _ => .nil
  | x :: xs, h => by
    have h2 := Bool.and_eq_true_iff.mp (List.all_cons .. ▸ h)
    exact .cons (dp_pd h2.1) (dpAll_pd h2.2)
theorem lay_pd : ∀ {x : V}, flatS x = true → (pd x).canLay0 = true ∧ (pd x).depth = 0 := fun {x} h => by
  cases x <;> first | (exact absurd (show false = true from h) Bool.false_ne_true) | (refine ⟨?_, ?_⟩ <;> simp only [pd, PyData.canLay0, PyData.depth]) 
  all_goals exact okS_ok h
theorem layAll_pd : ∀ {xs : List V}, xs.all flatS = true → PyData.canLayAll0 (xs.map pd) = true ∧ PyData.depthAll (xs.map pd) = 0
  | [], _ => ⟨by simp only [List.map, PyData.canLayAll0], by simp only [List.map, PyData.depthAll]⟩
  | x :: xs, h => by
    have h2 := Bool.and_eq_true_iff.mp (List.all_cons .. ▸ h)
    have a := lay_pd h2.1
    have b := layAll_pd h2.2
    simp only [List.map, PyData.canLayAll0, PyData.depthAll, a.1, a.2, b.1, b.2]
    decide
theorem shaped_pd {xs : List V} (h : xs.all flatS = true) : SeqAt.shaped (.tuple (xs.map pd)) = true ∧ SeqAt.shaped (.list (xs.map pd)) = true := by
  have a := layAll_pd h
  unfold SeqAt.shaped
  simp only [PyData.canLay0, PyData.depth, a.1, a.2]
  decide
theorem eqv_pd : ∀ {x y : V}, flatS x = true → flatS y = true → PyData.eqv (pd x) (pd y) = eqV x y := fun {x y} hx hy => by
  cases x <;> first | (exact absurd (show false = true from hx) Bool.false_ne_true) | skip
  all_goals cases y <;> first | (exact absurd (show false = true from hy) Bool.false_ne_true) | (simp only [pd, PyData.eqv, eqV])
theorem eqvAll_pd : ∀ {xs ys : List V}, xs.all flatS = true → ys.all flatS = true → PyData.eqvAll (xs.map pd) (ys.map pd) = eqL xs ys
  | [], [], _, _ => by simp only [List.map, PyData.eqvAll, eqL]
  | [], _ :: _, _, _ => by simp only [List.map, PyData.eqvAll, eqL]
  | _ :: _, [], _, _ => by simp only [List.map, PyData.eqvAll, eqL]
  | x :: xs, y :: ys, h, k => by
    have h2 := Bool.and_eq_true_iff.mp (List.all_cons .. ▸ h)
    have k2 := Bool.and_eq_true_iff.mp (List.all_cons .. ▸ k)
    simp only [List.map, PyData.eqvAll, eqL, eqv_pd h2.1 k2.1, eqvAll_pd h2.2 k2.2]
section
variable {K : PySem.W.Frag} {H : Hp} {a b : Addr} {xs ys : List V} {Q : VK}
theorem eqD_T (h1 : SqT K H a xs) (h2 : SqT K H b ys) (f1 : xs.all flatS = true) (f2 : ys.all flatS = true) (q : Q (.bl (eqL xs ys)) H) : rEqD K (.ref a) (.ref b) H Q := by
  refine ⟨_, _, .tup h1 (dpAll_pd f1), .tup h2 (dpAll_pd f2), (shaped_pd f1).1, (shaped_pd f2).1, ?_⟩
  simp only [PyData.eqv, eqvAll_pd f1 f2]
  exact q
theorem neD_T (h1 : SqT K H a xs) (h2 : SqT K H b ys) (f1 : xs.all flatS = true) (f2 : ys.all flatS = true) (q : Q (.bl (!eqL xs ys)) H) : rNeD K (.ref a) (.ref b) H Q := by
  refine ⟨_, _, .tup h1 (dpAll_pd f1), .tup h2 (dpAll_pd f2), (shaped_pd f1).1, (shaped_pd f2).1, ?_⟩
  simp only [PyData.eqv, eqvAll_pd f1 f2]
  exact q
theorem eqD_L (h1 : SqL K H a xs) (h2 : SqL K H b ys) (f1 : xs.all flatS = true) (f2 : ys.all flatS = true) (q : Q (.bl (eqL xs ys)) H) : rEqD K (.ref a) (.ref b) H Q := by
  refine ⟨_, _, .lst h1 (dpAll_pd f1), .lst h2 (dpAll_pd f2), (shaped_pd f1).2, (shaped_pd f2).2, ?_⟩
  simp only [PyData.eqv, eqvAll_pd f1 f2]
  exact q
theorem neD_L (h1 : SqL K H a xs) (h2 : SqL K H b ys) (f1 : xs.all flatS = true) (f2 : ys.all flatS = true) (q : Q (.bl (!eqL xs ys)) H) : rNeD K (.ref a) (.ref b) H Q := by
  refine ⟨_, _, .lst h1 (dpAll_pd f1), .lst h2 (dpAll_pd f2), (shaped_pd f1).2, (shaped_pd f2).2, ?_⟩
  simp only [PyData.eqv, eqvAll_pd f1 f2]
  exact q
/-- the same items: equal -/
theorem eqD_TT (h1 : SqT K H a xs) (h2 : SqT K H b ys) (e : xs = ys) (f : xs.all flatS = true) (q : Q (.bl true) H) : rEqD K (.ref a) (.ref b) H Q := by
  subst e
  exact eqD_T h1 h2 f f ((eqL_self f).symm ▸ q)
theorem neD_TT (h1 : SqT K H a xs) (h2 : SqT K H b ys) (e : xs = ys) (f : xs.all flatS = true) (q : Q (.bl false) H) : rNeD K (.ref a) (.ref b) H Q := by
  subst e
  exact neD_T h1 h2 f f (by rw [eqL_self f]; exact q)
theorem eqD_LL (h1 : SqL K H a xs) (h2 : SqL K H b ys) (e : xs = ys) (f : xs.all flatS = true) (q : Q (.bl true) H) : rEqD K (.ref a) (.ref b) H Q := by
  subst e
  exact eqD_L h1 h2 f f ((eqL_self f).symm ▸ q)
theorem neD_LL (h1 : SqL K H a xs) (h2 : SqL K H b ys) (e : xs = ys) (f : xs.all flatS = true) (q : Q (.bl false) H) : rNeD K (.ref a) (.ref b) H Q := by
  subst e
  exact neD_L h1 h2 f f (by rw [eqL_self f]; exact q)
end
/-! ### isinstance -/
theorem tyx_t {K : PySem.W.Frag} {H : Hp} {a : Addr} {xs : List V} (h : SqT K H a xs) : TyX K H (.ref a) (.type "tuple") := by
  rcases h with (h | ⟨o, h⟩) | ⟨o, its, n, h1, h2, _⟩
  · exact .base (.tup h)
  · exact .fTuple h
  · exact .kTuple h1 h2
theorem tyx_l {K : PySem.W.Frag} {H : Hp} {a : Addr} {xs : List V} (h : SqL K H a xs) : TyX K H (.ref a) (.type "list") := by
  rcases h with (h | ⟨o, h⟩) | ⟨o, its, n, h1, h2, _⟩
  · exact .base (.lst h)
  · exact .base (.frz h)
  · exact .kList h1 h2
@[irreducible] def rIs (K : PySem.W.Frag) : List V → Hp → VK → Prop := fun xs H Q => rIsi K xs H Q
theorem call_is {X : Cx} : CallR X (.builtin "isinstance") (rIs X.K) := fun pins s σ H xs us Q I r h => call_isi pins s σ H xs us Q I r (by unfold rIs at h; exact h)
theorem isi_go {K : PySem.W.Frag} {H : Hp} {x : V} {a b : String} {r : Bool} {Q : VK} (h : TyX K H x (.type a)) (k : kitB a b = some r) (q : Q (.bl r) H) : rIs K [x, .ty b] H Q := by
  unfold rIs
  exact ⟨_, _, _, _, r, rfl, .ty _, h, kit_ty k, q⟩
theorem not_pos {b : Bool} (h : b = false) : (!b) = true := by rw [h]; rfl
def any1 : List V → Prop := fun _ => True
/-! ### len -/
@[irreducible] def rLn (K : PySem.W.Frag) : List V → Hp → VK → Prop := fun xs H Q => ∃ p ys, xs = [.ref p] ∧ (SqL K H p ys ∨ SqT K H p ys) ∧ Q (.int ys.length) H
theorem call_ln {X : Cx} : CallR X (.builtin "len") (rLn X.K) := fun pins s σ H xs us Q I r h => call_len_seq pins s σ H xs us Q I r (by unfold rLn at h; exact h)
section
variable {K : PySem.W.Frag} {H : Hp} {p : Addr} {ys : List V} {Q : VK}
theorem ln_t (h : SqT K H p ys) (q : Q (.int ys.length) H) : rLn K [.ref p] H Q := by
  unfold rLn
  exact ⟨_, _, rfl, .inr h, q⟩
theorem ln_l (h : SqL K H p ys) (q : Q (.int ys.length) H) : rLn K [.ref p] H Q := by
  unfold rLn
  exact ⟨_, _, rfl, .inl h, q⟩
end
theorem same_set {H H' : Hp} {p : Addr} {o : HO} (s : Same H H') (h : H p = none) : Same H (upd H' p o) := fun b u e => by
  have hb : b ≠ p := fun z => by
    rw [z, h] at e
    cases e
  rw [upd_ne hb]
  exact s b u e
theorem map_len {α : Type} {f : α → V} {xs : List α} : (((xs.map f).length : Nat) : Int) = ((xs.length : Nat) : Int) := by rw [List.length_map]
theorem range_snoc {f : Nat → Int} {i : Nat} {y : Int} (e : f i = y) : ((List.range i).map f).map V.int ++ [V.int y] = ((List.range (i + 1)).map f).map V.int := by
  subst e
  rw [List.range_succ, List.map_append, List.map_append]
  rfl
theorem atI_map {ns : List Int} {j : Nat} (h : j < ns.length) : atI (ns.map V.int) (0 + ((j : Nat) : Int)) = some (V.int (ns.getD j 0)) := by
  rw [Int.zero_add]
  exact atI_map_cell h
/-! ### methods of lists -/
@[irreducible] def rApp : V → List V → Hp → VK → Prop := fun x vs H Q => rAppend x vs H Q
theorem mt_app {X : Cx} : MtM X "list.append" rApp := fun pins s σ H x vs v us Q I rx rv h => mt_append pins s σ H x vs v us Q I rx rv (by unfold rApp at h; exact h)
theorem app_go {H : Hp} {l : Addr} {xs : List V} {y : V} {Q : VK} (e : H l = some (.lst xs)) (hl : xs.length < sizeLine) (q : Q .non (upd H l (.lst (xs ++ [y])))) : rApp (.ref l) [y] H Q := by
  unfold rApp
  exact ⟨l, xs, y, rfl, rfl, e, hl, q⟩
theorem ty_l {K : PySem.W.Frag} {H : Hp} {p : Addr} {xs : List V} (h : SqL K H p xs) : tyV K "list" (.ref p) H := .inl ⟨rfl, _, h⟩
theorem ty_s {K : PySem.W.Frag} {H : Hp} {z : Str} : tyV K "str" (.str z) H := rfl
theorem ty_d {K : PySem.W.Frag} {H : Hp} {p : Addr} {kvs : List (Key × V)} (h : H p = some (.dK kvs)) : tyV K "dict" (.ref p) H := .inr (.inr (.inl ⟨rfl, .inl ⟨_, h⟩⟩))
/-! ### a call that writes all parameters, the last ones by name -/
section
variable {K : PySem.W.Frag} {x qual : Str} {params : Arguments} {body : List Stmt} {scope : Scope} {dvs : List V} {kws : List (Str × V)} {f : Addr} {fd : FuncData} {ps : List Str}
theorem kb_all (F : FunD K x qual params body scope dvs kws f fd) (n : Nat) (ks : List Str) (hd : dvs ≠ [])
    (h : ∀ (T : Addr) (kV doc pm : Value) (an : Option Addr) (cdv ct : Value) (us its ws : List Value), us.length = n → its.length = dvs.length → ws.length = ks.length →
      ∃ k, bindArgs (PySem.W.fnOf x qual params body scope (.ref T) kV doc pm an cdv ct) ⟨us, ks.zip ws⟩ = seqItems? (.ref T) >>= k ∧ k (some its.toArray) = pure (ps.zip (us ++ ws))) :
    KBn K fd ps n ks (fun us ws => us ++ ws) (fun vs zs => vs ++ zs) := by
  obtain ⟨oc, od, dV, kV, doc, pm, an, cdv, ct, osl, rfl, lk, hcd, hD, hK⟩ := F.ex
  rcases hD with ⟨e, _⟩ | ⟨_, t, o, its, m, rfl, lT, oT, rT⟩
  · exact absurd e hd
  · refine ⟨fun s us ws X l1 l2 => ?_, fun r1 r2 => r1.append r2⟩
    obtain ⟨k, e1, e2⟩ := h t kV doc pm an cdv ct us its ws l1 rT.length.symm l2
    refine BindsTo.of_looks fun M => ?_
    rw [e1]
    exact looks_items X lT oT (.of_pure e2)
end
/-! ### a, b, c = pair -/
theorem gTup_go {K : PySem.W.Frag} {n : Nat} {t : TGs} {a : Addr} {xs : List V} {σ : L2.St} {H : Hp} {Q : L2.St → Hp → Prop} (h : SqT K H a xs) (l : xs.length = n) (q : t xs σ H Q) : gTup K n t (.ref a) σ H Q := ⟨a, xs, rfl, h, l, q⟩
theorem gCons_go {t : TG} {u : TGs} {v : V} {r : List V} {σ : L2.St} {H : Hp} {Q : L2.St → Hp → Prop} (q : t v σ H fun σ' H' => u r σ' H' Q) : gCons t u (v :: r) σ H Q := ⟨v, r, rfl, q⟩
theorem gNil_go {σ : L2.St} {H : Hp} {Q : L2.St → Hp → Prop} (q : Q σ H) : gNil [] σ H Q := ⟨rfl, q⟩
/-! ### min and max of two -/
@[irreducible] def rMn : List V → Hp → VK → Prop := fun xs H Q => ∃ i j, xs = [.int i, .int j] ∧ Q (.int (if j < i then j else i)) H
@[irreducible] def rMx : List V → Hp → VK → Prop := fun xs H Q => ∃ i j, xs = [.int i, .int j] ∧ Q (.int (if i < j then j else i)) H
theorem call_mn {X : Cx} (hc : X.calm = true) : CallR X (.builtin "min") rMn := fun pins s σ H xs us Q I r h => call_min2 hc pins s σ H xs us Q I r (by unfold rMn at h; exact h)
theorem call_mx {X : Cx} (hc : X.calm = true) : CallR X (.builtin "max") rMx := fun pins s σ H xs us Q I r h => call_max2 hc pins s σ H xs us Q I r (by unfold rMx at h; exact h)
theorem mn_go {i j : Int} {H : Hp} {Q : VK} (q : Q (.int (if j < i then j else i)) H) : rMn [.int i, .int j] H Q := by
  unfold rMn
  exact ⟨i, j, rfl, q⟩
theorem mx_go {i j : Int} {H : Hp} {Q : VK} (q : Q (.int (if i < j then j else i)) H) : rMx [.int i, .int j] H Q := by
  unfold rMx
  exact ⟨i, j, rfl, q⟩
theorem atI_ex (xs : List Int) {i : Int} (h0 : 0 ≤ i) (h1 : i < (xs.length : Nat)) : ∃ z, z ∈ xs ∧ atI (xs.map V.int) i = some (V.int z) := by
  obtain ⟨n, rfl⟩ : ∃ n : Nat, i = n := ⟨i.toNat, by omega⟩
  have hn : n < xs.length := by omega
  refine ⟨xs[n], List.getElem_mem hn, ?_⟩
  refine atI_nat ?_
  rw [List.getElem?_map, List.getElem?_eq_getElem hn]
  rfl
/-! ### x in xs, flat -/
@[irreducible] def rInS (K : PySem.W.Frag) (neg : Bool) : R2 := fun x y H Q => rIn K neg x y H Q
theorem op_inS {X : Cx} : OpR X (compareOp .In) (rInS X.K false) := fun pins s σ H x y v u Q I rx ry h => op_in_seq pins s σ H x y v u Q I rx ry (by unfold rInS at h; exact h)
theorem op_notInS {X : Cx} : OpR X (compareOp .NotIn) (rInS X.K true) := fun pins s σ H x y v u Q I rx ry h => op_notIn_seq pins s σ H x y v u Q I rx ry (by unfold rInS at h; exact h)
section
variable {K : PySem.W.Frag} {H : Hp} {p : Addr} {x : V} {xs : List V} {Q : VK}
theorem inT_go (h : SqT K H p xs) (fx : flatV x = true) (fs : xs.all flatV = true) (q : Q (.bl (inV x xs)) H) : rInS K false x (.ref p) H Q := by
  unfold rInS
  exact ⟨p, xs, rfl, .inr h, fx, fs, q⟩
theorem inL_go (h : SqL K H p xs) (fx : flatV x = true) (fs : xs.all flatV = true) (q : Q (.bl (inV x xs)) H) : rInS K false x (.ref p) H Q := by
  unfold rInS
  exact ⟨p, xs, rfl, .inl h, fx, fs, q⟩
theorem niT_go (h : SqT K H p xs) (fx : flatV x = true) (fs : xs.all flatV = true) (q : Q (.bl (!inV x xs)) H) : rInS K true x (.ref p) H Q := by
  unfold rInS
  exact ⟨p, xs, rfl, .inr h, fx, fs, q⟩
theorem niL_go (h : SqL K H p xs) (fx : flatV x = true) (fs : xs.all flatV = true) (q : Q (.bl (!inV x xs)) H) : rInS K true x (.ref p) H Q := by
  unfold rInS
  exact ⟨p, xs, rfl, .inl h, fx, fs, q⟩
end
/-! ### == of two pairs (text, tuple) -/
theorem eqD_nest {K : PySem.W.Frag} {H : Hp} {a b p q : Addr} {s : Str} {xs : List V} {Q : VK} (h1 : SqT K H a [.str s, .ref p]) (h2 : SqT K H b [.str s, .ref q]) (hp : SqT K H p xs) (hq : SqT K H q xs) (hs : okS s = true) (f : xs.all flatS = true) (k : Q (.bl true) H) : rEqD K (.ref a) (.ref b) H Q := by
  have e := layAll_pd f
  have sh : SeqAt.shaped (.tuple [.str s, .tuple (xs.map pd)]) = true := by
    unfold SeqAt.shaped
    simp only [PyData.canLay0, PyData.canLayAll0, PyData.depth, PyData.depthAll, e.1, e.2, okS_ok hs]
    decide
  refine ⟨_, _, .tup h1 (.cons (.str s) (.cons (.tup hp (dpAll_pd f)) .nil)), .tup h2 (.cons (.str s) (.cons (.tup hq (dpAll_pd f)) .nil)), sh, sh, ?_⟩
  rw [SeqAt.eqv_refl _ (SeqAt.canLay_of_shaped sh)]
  exact k
/-! ### xs[i] = v -/
@[irreducible] def rSetLi : V → V → V → Hp → (Hp → Prop) → Prop := fun o i v H Q => rSetL o i v H Q
theorem set_li {X : Cx} : PSet X rSetLi := fun pins s σ H o i v ov iv u Q I ro ri rv h => set_list pins s σ H o i v ov iv u Q I ro ri rv (by unfold rSetLi at h; exact h)
theorem setL_go {H : Hp} {p : Addr} {xs : List V} {k : Int} {j : Nat} {v : V} {Q : Hp → Prop} (h : H p = some (.lst xs)) (e : ixN xs.length k = some j) (q : Q (upd H p (.lst (xs.set j v)))) : rSetLi (.ref p) (.int k) v H Q := by
  unfold rSetLi
  exact ⟨p, xs, k, j, rfl, rfl, h, e, q⟩
/-! ### slices -/
section
variable {K : PySem.W.Frag} {H : Hp} {p : Addr} {xs : List V} {lo hi : Option Int} {Q : VK}
theorem slL_go (h : SqL K H p xs) (q : ∀ r, H r = none → Q (.ref r) (upd H r (.lst (cutV xs lo hi)))) : rSlL K (.ref p) lo hi H Q := ⟨p, xs, rfl, h, q⟩
end
/-! ### comprehensions over a list -/
theorem upd_upd {H : Hp} {a : Addr} {o o' : HO} : upd (upd H a o) a o' = upd H a o' := by
  funext b
  by_cases e : b = a
  · subst e
    rw [upd_same, upd_same]
  · rw [upd_ne e, upd_ne e, upd_ne e]
theorem hp_upd {H : Hp} {a p : Addr} {o o' : HO} (e : H p = none) (h : H a = some o) : upd H p o' a = some o := (upd_ne (ne_of_none h e)).trans h
section
variable {K : PySem.W.Frag} {a D : Addr} {g : TG} {tt : TT} {te : TE} {vs : List Nat} {σ : L2.St} {H1 : Hp} {Qd : Hp → Prop}
/-- [x for x in ns if p x] -/
theorem lc_fil {ns : List Int} (p : Int → Bool) (hD : H1 D = none) (hl : SqL K H1 a (ns.map V.int)) (hn : ns.length < sizeLine)
    (hs : ∀ z H (N : Hp → Prop) acc, H D = some (.lst acc) → acc.length < sizeLine → (p z = true → N (upd H D (.lst (acc ++ [.int z])))) → (p z = false → N H) →
      g (.int z) (wipe σ vs) H fun σ2 H2 => wipe σ2 vs = wipe σ vs ∧ tt σ2 H2 fun b H3 => if b = true then te σ2 H3 fun y H4 => ∃ acc, H4 D = some (.lst acc) ∧ acc.length < sizeLine ∧ N (upd H4 D (.lst (acc ++ [y]))) else N H3)
    (hd : Qd (upd H1 D (.lst ((ns.filter p).map V.int)))) :
    ∃ W : Nat → Nat → Hp → Prop, (∃ m, W 0 m (upd H1 D (.lst []))) ∧ ∀ i m H, W i m H →
      ((Itl K a).stop i H ∧ Qd H) ∨ ((Itl K a).go i H ∧ ∃ Nx : Hp → Prop, (∀ H', Nx H' → ∃ m', m' < m ∧ W (i + 1) m' H') ∧ ∀ x H', (Itl K a).yld i H x H' → g x (wipe σ vs) H' fun σ2 H2 => wipe σ2 vs = wipe σ vs ∧ tt σ2 H2 fun b H3 =>
        if b = true then te σ2 H3 fun y H4 => ∃ acc, H4 D = some (.lst acc) ∧ acc.length < sizeLine ∧ Nx (upd H4 D (.lst (acc ++ [y]))) else Nx H3) := by
  refine lc_list (xs := ns.map V.int) (fun i H => H = upd H1 D (.lst (((ns.take i).filter p).map V.int))) rfl (fun i H _ e => e ▸ lst_upd hD hl) ?_ ?_
  · rintro i x H hx rfl
    rw [List.getElem?_map] at hx
    cases hz : ns[i]? with
    | none => rw [hz] at hx; cases hx
    | some z =>
      rw [hz] at hx
      cases hx
      have ht : ns.take (i + 1) = ns.take i ++ [z] := by rw [List.take_add_one, hz]; rfl
      refine hs z _ _ _ upd_same ?_ (fun c => ?_) (fun c => ?_)
      · rw [List.length_map]
        refine Nat.lt_of_le_of_lt (List.length_filter_le _ _) (Nat.lt_of_le_of_lt ?_ hn)
        rw [List.length_take]
        exact Nat.min_le_right _ _
      · rw [ht, List.filter_append, List.map_append, upd_upd]
        simp [c]
      · rw [ht, List.filter_append]
        simp [c]
  · rintro H rfl
    rw [List.length_map, List.take_length]
    exact hd
/-- [f x for x in xs] -/
theorem lc_mp {xs : List V} (f : V → V) (hD : H1 D = none) (hl : SqL K H1 a xs) (hn : xs.length < sizeLine)
    (hs : ∀ (i : Nat) (x : V) (H : Hp) (N : Hp → Prop) (acc : List V), xs[i]? = some x → Same H1 H → H D = some (.lst acc) → acc.length < sizeLine → (∀ H', Same H1 H' → H' D = some (.lst (acc ++ [f x])) → N H') →
      g x (wipe σ vs) H fun σ2 H2 => wipe σ2 vs = wipe σ vs ∧ tt σ2 H2 fun b H3 => if b = true then te σ2 H3 fun y H4 => ∃ acc, H4 D = some (.lst acc) ∧ acc.length < sizeLine ∧ N (upd H4 D (.lst (acc ++ [y]))) else N H3)
    (hd : ∀ H', Same H1 H' → H' D = some (.lst (xs.map f)) → Qd H') :
    ∃ W : Nat → Nat → Hp → Prop, (∃ m, W 0 m (upd H1 D (.lst []))) ∧ ∀ i m H, W i m H →
      ((Itl K a).stop i H ∧ Qd H) ∨ ((Itl K a).go i H ∧ ∃ Nx : Hp → Prop, (∀ H', Nx H' → ∃ m', m' < m ∧ W (i + 1) m' H') ∧ ∀ x H', (Itl K a).yld i H x H' → g x (wipe σ vs) H' fun σ2 H2 => wipe σ2 vs = wipe σ vs ∧ tt σ2 H2 fun b H3 =>
        if b = true then te σ2 H3 fun y H4 => ∃ acc, H4 D = some (.lst acc) ∧ acc.length < sizeLine ∧ Nx (upd H4 D (.lst (acc ++ [y]))) else Nx H3) := by
  refine lc_list (xs := xs) (fun i H => Same H1 H ∧ H D = some (.lst ((xs.take i).map f))) ⟨same_new (Same.refl _) hD, upd_same⟩ (fun i H _ e => same_lst e.1 hl) ?_ ?_
  · rintro i x H hx ⟨s, e⟩
    have ht : xs.take (i + 1) = xs.take i ++ [x] := by rw [List.take_add_one, hx]; rfl
    refine hs i x _ _ _ hx s e ?_ fun H' s' e' => ?_
    · rw [List.length_map, List.length_take]
      exact Nat.lt_of_le_of_lt (Nat.min_le_right _ _) hn
    · refine ⟨s', ?_⟩
      rw [ht, List.map_append]
      exact e'
  · rintro H ⟨s, e⟩
    rw [List.take_length] at e
    exact hd H s e
end
/-! ### comprehensions over a range -/
section
variable {D : Addr} {g : TG} {tt : TT} {te : TE} {vs : List Nat} {σ : L2.St} {H1 : Hp} {Qd : Hp → Prop}
theorem lc_rgm {n : Nat} (f : Nat → V) (hD : H1 D = none) (hn : n < sizeLine)
    (hs : ∀ (i : Nat) (H : Hp) (N : Hp → Prop) (acc : List V), i < n → Same H1 H → H D = some (.lst acc) → acc.length < sizeLine → (∀ H', Same H1 H' → H' D = some (.lst (acc ++ [f i])) → N H') →
      g (.int (0 + (i : Nat))) (wipe σ vs) H fun σ2 H2 => wipe σ2 vs = wipe σ vs ∧ tt σ2 H2 fun b H3 => if b = true then te σ2 H3 fun y H4 => ∃ acc, H4 D = some (.lst acc) ∧ acc.length < sizeLine ∧ N (upd H4 D (.lst (acc ++ [y]))) else N H3)
    (hd : ∀ H', Same H1 H' → H' D = some (.lst ((List.range n).map f)) → Qd H') :
    ∃ W : Nat → Nat → Hp → Prop, (∃ m, W 0 m (upd H1 D (.lst []))) ∧ ∀ i m H, W i m H →
      ((Itr 0 n).stop i H ∧ Qd H) ∨ ((Itr 0 n).go i H ∧ ∃ Nx : Hp → Prop, (∀ H', Nx H' → ∃ m', m' < m ∧ W (i + 1) m' H') ∧ ∀ x H', (Itr 0 n).yld i H x H' → g x (wipe σ vs) H' fun σ2 H2 => wipe σ2 vs = wipe σ vs ∧ tt σ2 H2 fun b H3 =>
        if b = true then te σ2 H3 fun y H4 => ∃ acc, H4 D = some (.lst acc) ∧ acc.length < sizeLine ∧ Nx (upd H4 D (.lst (acc ++ [y]))) else Nx H3) := by
  refine lc_range (fun i H => Same H1 H ∧ H D = some (.lst ((List.range i).map f))) ⟨same_new (Same.refl _) hD, upd_same⟩ ?_ fun H e => hd H e.1 e.2
  rintro i H hi ⟨s, e⟩
  refine hs i H _ _ hi s e ?_ fun H' s' e' => ⟨s', ?_⟩
  · rw [List.length_map, List.length_range]
    exact Nat.lt_trans hi hn
  · rw [List.range_succ, List.map_append]
    exact e'
end
theorem range_rep {n : Nat} {v : Int} : (List.range n).map (fun _ => V.int v) = (List.replicate n v).map V.int := by
  rw [List.map_const', List.length_range, List.map_replicate]
/-! ### max of a list -/
@[irreducible] def rMxl (K : PySem.W.Frag) : List V → Hp → VK → Prop := fun vs H Q => rMax K vs H Q
theorem call_mxl {X : Cx} (hc : X.calm = true) : CallR X (.builtin "max") (rMxl X.K) := fun pins s σ H xs us Q I r h => cr_max hc pins s σ H xs us Q I r (by unfold rMxl at h; exact h)
theorem mxl_go {K : PySem.W.Frag} {H : Hp} {p : Addr} {ns : List Int} {Q : VK} (h : SqL K H p (ns.map V.int)) (h0 : 0 < ns.length) (q : ∀ m, m ∈ ns → (∀ y, y ∈ ns → y ≤ m) → Q (.int m) H) : rMxl K [.ref p] H Q := by
  unfold rMxl
  exact ⟨p, ns, rfl, h, h0, q⟩
/-! ### x is True -/
@[irreducible] def rIsB : R2 := fun x y H Q => ∃ b c, x = .bl b ∧ y = .bl c ∧ Q (.bl (b == c)) H
@[irreducible] def rNotB : R2 := fun x y H Q => ∃ b c, x = .bl b ∧ y = .bl c ∧ Q (.bl (!(b == c))) H
section
variable {X : Cx} {b c : Bool} {H : Hp} {Q : VK}
theorem op_isB : OpR X (compareOp .Is) rIsB := fun pins s σ H x y v u Q I rx ry h => by
  unfold rIsB at h
  obtain ⟨b, c, rfl, rfl, q⟩ := h
  cases (show v = Value.bool b from rx)
  cases (show u = Value.bool c from ry)
  refine PySem.wpAny_is_plain rfl ⟨.bl (b == c), H, I, ?_, q⟩
  cases b <;> cases c <;> rfl
theorem op_notB : OpR X (compareOp .IsNot) rNotB := fun pins s σ H x y v u Q I rx ry h => by
  unfold rNotB at h
  obtain ⟨b, c, rfl, rfl, q⟩ := h
  cases (show v = Value.bool b from rx)
  cases (show u = Value.bool c from ry)
  refine PySem.wpAny_isNot_plain rfl ⟨.bl (!(b == c)), H, I, ?_, q⟩
  cases b <;> cases c <;> rfl
theorem isB_go (q : Q (.bl (b == c)) H) : rIsB (.bl b) (.bl c) H Q := by
  unfold rIsB
  exact ⟨b, c, rfl, rfl, q⟩
theorem notB_go (q : Q (.bl (!(b == c))) H) : rNotB (.bl b) (.bl c) H Q := by
  unfold rNotB
  exact ⟨b, c, rfl, rfl, q⟩
end
theorem tC_go {v : V} {σ : L2.St} {H : Hp} {Q : VK} (q : Q v H) : tC v σ H Q := q
theorem tNoPart_go {σ : L2.St} {H : Hp} {Q : Option Int → Hp → Prop} (q : Q none H) : tNoPart σ H Q := q
/-! ### list(xs) -/
@[irreducible] def rLo (K : PySem.W.Frag) : List V → Hp → VK → Prop := fun vs H Q => ∃ p xs, vs = [.ref p] ∧ (SqL K H p xs ∨ SqT K H p xs) ∧ ∀ l, H l = none → Q (.ref l) (upd H l (.lst xs))
theorem call_lo {X : Cx} : CallR X (.type "list") (rLo X.K) := fun pins s σ H xs us Q I r h => call_list_of pins s σ H xs us Q I r (by unfold rLo at h; exact h)
section
variable {K : PySem.W.Frag} {H : Hp} {p : Addr} {xs : List V} {Q : VK}
theorem lo_l (h : SqL K H p xs) (q : ∀ l, H l = none → Q (.ref l) (upd H l (.lst xs))) : rLo K [.ref p] H Q := by
  unfold rLo
  exact ⟨p, xs, rfl, .inl h, q⟩
theorem lo_t (h : SqT K H p xs) (q : ∀ l, H l = none → Q (.ref l) (upd H l (.lst xs))) : rLo K [.ref p] H Q := by
  unfold rLo
  exact ⟨p, xs, rfl, .inr h, q⟩
end
theorem flatI {fl : List Int} : (fl.map V.int).all flatS = true := by
  rw [List.all_map]
  exact List.all_eq_true.mpr fun _ _ => rfl
/-! ### xs + ys -/
@[irreducible] def rCt : R2 := fun x y H Q => rCat x y H Q
theorem op_ct {X : Cx} : OpR X (binaryOp .Add) rCt := fun pins s σ H x y v u Q I rx ry h => op_cat pins s σ H x y v u Q I rx ry (by unfold rCt at h; exact h)
theorem ct_go {H : Hp} {a b : Addr} {xs ys : List V} {Q : VK} (h1 : H a = some (.lst xs)) (h2 : H b = some (.lst ys)) (hl : xs.length + ys.length ≤ sizeLine) (q : ∀ r, H r = none → Q (.ref r) (upd H r (.lst (xs ++ ys)))) : rCt (.ref a) (.ref b) H Q := by
  unfold rCt
  exact ⟨a, b, xs, ys, rfl, rfl, h1, h2, hl, q⟩
/-! ### f() -/
section
variable {X : Cx} {CX : CXT} {k : Nat} {f : Addr} {fd : FuncData} {sp : Sp} {E : L2.St → XK} {x : Str} {p pos : Pos}
def tCall0 (sp : Sp) (E : L2.St → XK) : TE := fun σ H Q => sp [] H Q (E σ)
theorem pe_callS0 (F : FnOk X.prog X.w X.K X.mg X.base CX k f fd [] sp) (hr : Room k X.A) (hg : Gl X x) (hm : X.mg x = some (.ref f)) (hk : PySem.W.keepIn X.K (.ref f) = true) (hb : Binds X.K fd [] []) (hx : ∀ σ, PassesAt CX X σ (E σ))
    (hdb : (x == ("__debug__" : Str)) = false := by decide) : PE X (.Call (.Name x p) [] [] pos) (tCall0 sp E) := by
  refine ⟨fun pins s σ H Q I h => ?_⟩
  refine wpAny_Call_Name_kw (ld_glob I hg hm ?_ hdb)
  exact PySem.W.callWith_K0 I.kIn hk (run_fnS (us := []) F hr hb (hx σ) I .nil h)
end
end LB

set_option Elab.async false
set_option linter.all false
set_option maxRecDepth 100000
set_option maxHeartbeats 4000000
/-! an own exception whose __init__ begins with super().__init__(..), over ValueError through own classes -/
namespace LB
open PySem PySem.Spec PyProof.Rows L2 NdefX
/-- what the written part says of such a class: at C, its __init__ at fI, that one's code at cda, the cell of __class__ at cc -/
structure SupC (P : Program) (K : PySem.W.Frag) (mg : Str → Option Value) (C fI cc cda : Addr) : Prop where
  ox : OexC K C
  iC : PySem.W.findIn K (.ref C) "__init__" = some (some (.ref fI))
  tI : PySem.W.typeIn K (.ref fI) = some (.type "function")
  cell : ∃ cl cld csl, K.lookup cc = some ⟨cl, cld, .cell (some (.ref C)), csl⟩
  code : ∃ ccl cdd vs ccs file tf, K.lookup cda = some ⟨ccl, cdd, .fields vs, ccs⟩ ∧ vs[2]? = some (.str file tf) ∧ ((P.main.file : Str) == file) = true
  top : (P.main.scope.names.lookup ("super" : Str)).isSome = false
  zs : mg "super" = none
  self : PySem.W.mroIn K C (.ref C) = some true
  third : PySem.W.nsIn K cStatics "thirdparty.any" = some none
  sup : PySem.W.ks_superIn K C C "__init__" = some (some (.builtin "ValueError.__init__"))
  ve : PySem.W.subIn K (.ref C) (.type "ValueError") = some true
section
variable {CX : CXT} {P : Program} {w : World} {K : PySem.W.Frag} {mg : Str → Option Value} {base : Heap} {C fI cc cda : Addr}
/-- the wrapper's call: the exception's args are laid anew -/
theorem sup_call {X : Cx} {pins : List (Addr × Obj)} {σ : L2.St} {H : Hp} {s : Shared} {a u : Addr} {us : List Value} {A : Around} {E : Value → Shared → Prop} {Q : Value → Shared → Prop} (T : OexC X.K C) (I : Inv X pins σ H s) (e : H a = some (exo a C none))
    (hu : s.heap.get? u = some (PySem.W.kxs_mw "ValueError.__init__" a)) (hl : us.length ≤ sizeLine) (h : ∀ s', Inv X pins σ H s' → Q .none s') : wpAny (model X.prog X.w) A (call (.ref u) us) Q E s := by
  obtain ⟨nm, q, N, bs, bm, sn, sub, ab, col, dd, k0, k1, k2, k3, k5, hC, hbm⟩ := T.cls
  obtain ⟨t1, ho⟩ := exo_at I.hok e
  have hCh := I.kIn _ _ hC
  obtain ⟨hp, g, d, t, os⟩ := s
  refine wpAny_call (codeAny_of_tree ?_)
  show wpAny _ A.in1 (callAny (.ref u) ⟨us, []⟩) _ _ _
  simp only [callAny]
  refine wpAny_bind (wpAny_load hu ?_)
  simp only [PySem.W.kxs_mw, show (Value.type "method-wrapper" == Value.type "method" || Value.type "method-wrapper" == Value.type "builtin_function_or_method" || Value.type "method-wrapper" == Value.type "method-wrapper") = true by decide, if_true]
  refine PySem.W.KFB.if_so (by decide) ?_
  refine wpAny_bind (PySem.W.check_bound_init F.excBase_ValueError.toExcCallFacts hCh ho rfl ?_)
  refine wpAny_bind (wpAny_pure (wpAny_pure ?_))
  refine ⟨plainId_quiet F.excBase_ValueError.init.plain _, codeAny_builtin F.excBase_ValueError.initEntry ?_⟩
  refine PySem.W.exc_init_tree (cls := .ref C) (t0 := t1) (dv := none) (c2 := .none) (c3 := .none) (b4 := .bool false) ho hl fun h' k hx _ => ?_
  have J := I.write (t' := t) (x := a) (e := a) (o := exo a C none) (by rw [e]; exact True.intro) (.inl rfl) k ⟨_, hx⟩ (exo_ok hx)
  have eu : upd H a (exo a C none) = H := by
    funext b
    by_cases hb : b = a
    · rw [hb, upd_same, e]
    · rw [upd_ne hb]
  rw [eu] at J
  exact h _ J
end
/-- the first statement -/
abbrev supS (p1 p2 p3 p4 p5 : Pos) (e : Expr) (es : List Expr) : Stmt := .Expr (.Call (.Attribute (.Call (.Name "super" p1) [] [] p2) "__init__" p3) (e :: es) [] p4) p5
theorem looks_mro {M : Model} {K : PySem.W.Frag} {h : Heap} {C : Addr} {cd : ClassData} (X : K.In h) (hc : PySem.W.clsIn K C = some cd) : PySem.W.Looks M h (mroOf (.ref C)) cd.mro := fun A Q E s k q => wpAny_bind ((PySem.W.looks_clsIn X hc) A _ E s k (wpAny_pure q))
section
variable {CX : CXT} {P : Program} {w : World} {K : PySem.W.Frag} {mg : Str → Option Value} {base : Heap} {C fI cc cda : Addr} {N ps : List Str} {k : Nat} {sp : Sp} {name qual : Str} {params : Arguments} {rest : List Stmt} {scope : Scope} {p1 p2 p3 p4 p5 : Pos} {e : Expr} {es : List Expr}
theorem sup_ok {F : NF} {oc doc pm ct : Value} {od : Option Addr} {osl : Array (Option Value)} (T : SupC P K mg C fI cc cda) (hB : F.body = supS p1 p2 p3 p4 p5 e es :: rest) (hcl : F.cl = [(("__class__" : Str), cc)]) (hca : F.c = cda)
    (lk : K.lookup fI = some ⟨oc, od, .func (F.fd doc pm ct), osl⟩) (hcd : PySem.W.codeIn K (.ref cda) F.qual = true)
    (S : NScope N (("self" : Str) :: ps) ["__class__"] F.scope) (hps : (F.params.posonlyargs ++ F.params.args).head?.map (·.arg) = some ("self" : Str)) (hks : F.scope.names.lookup ("super" : Str) = some .globalImplicit)
    (hb : ∀ us : List Value, us.length = (("self" : Str) :: ps).length → bindArgs (F.fd doc pm ct) ⟨us, []⟩ = pure ((("self" : Str) :: ps).zip us))
    (he : ∀ L, starEach (e :: es) (envF F fI L) = (false, eval e (envF F fI L)) :: starEach es (envF F fI L))
    (hpl : ∀ L, (backTo p4 (starEach es (envF F fI L))).any (·.1) = false)
    (hsw : ∀ L, swapsWith (.Call (.Attribute (.Call (.Name "super" p1) [] [] p2) "__init__" p3) (e :: es) [] p4) none p5.line (envF F fI L) = pure false)
    (hev : ∀ L, ∃ pl, eval (.Call (.Attribute (.Call (.Name "super" p1) [] [] p2) "__init__" p3) (e :: es) [] p4) (envF F fI L) = (do
      let ov ← attributeBase (.Call (.Name "super" p1) [] [] p2) "__init__" (envF F fI L) (eval (.Call (.Name "super" p1) [] [] p2) (envF F fI L))
      standAt p3.atName
      let (f, first) ← holding [ov] (getMethod ov "__init__" pl)
      callWith p4 f first (backTo p4 (starEach (e :: es) (envF F fI L))) []))
    (len : ∀ vs H Q E, sp vs H Q E → vs.length = (("self" : Str) :: ps).length)
    (hbody : ∀ (A : Around) (outer : List Env) (s : Shared) (H : Hp) (vs : List V) (Q : VK) (E : XK), sp vs H Q E →
      ∃ (a : Addr) (xs : List V) (ta : TA) (t : TS), vs = .ref a :: xs ∧ H a = some (exo a C none) ∧ PA (ncx CX P w K mg base N F fI A outer s H E) (e :: es) ta ∧
        PSs (ncx CX P w K mg base N F fI A outer s H E) rest t ∧
        ta (startF N vs [some (.ref C)]) H fun us H1 => us.length ≤ 1000 ∧ H1 a = some (exo a C none) ∧ t { nx := fun _ H' => Q .non H', rt := Q } (startF N vs [some (.ref C)]) H1) :
    FnOk P w K mg base CX (k + 1) fI (F.fd doc pm ct) (("self" : Str) :: ps) sp := by
  obtain ⟨fn_, fq, fp, fb, fs, fcl, fc⟩ := F
  dsimp only at hB hcl hca hcd S hps hks
  subst hB hcl hca
  refine ⟨len, fun A outer s H args us vs Q E hr e0 hbi r hsp => ?_⟩
  have hl := len _ _ _ _ hsp
  have lim : s.heap.NoLimit := e0.mod.nolimit.keeps fun b o e => (e0.bs b o e).1
  have KX : K.In s.heap := e0.mod.kin.keeps fun b o e => (e0.bs b o e).1
  obtain ⟨a, xs, ta, t, rfl, ea, ha, hrest, hq⟩ := hbody A outer s H vs Q E hsp
  obtain ⟨cl, cld, csl, hcell⟩ := T.cell
  obtain ⟨ccl, cdd, cvs, ccs, file, tf, hcode, hvs, hfile⟩ := T.code
  obtain ⟨nm, q0, N0, bs, bm, sn, sub, ab, col, dd, k0, k1, k2, k3, k5, hC, hbm⟩ := T.ox.cls
  obtain ⟨u0, ur, rfl, ru0, rur⟩ : ∃ u0 ur, us = u0 :: ur ∧ RelV (.ref a) u0 ∧ Vals xs ur := by
    cases r with
    | cons h1 h2 => exact ⟨_, _, rfl, h1, h2⟩
  obtain rfl : u0 = Value.ref a := ru0
  have hul : (Value.ref a :: ur).length = (("self" : Str) :: ps).length := r.length.symm.trans hl
  refine ks_codeAny_call_defAt hr.depth (KX _ _ lk) rfl lim (PySem.W.codeRec_of KX hcd) rfl hbi S.nocell (fun ⟨n, _⟩ hy => S.par n (List.of_mem_zip hy).1) (fun h₁ hns kp => ?_) S.co S.gen S.kind
  have CA : CellsAt [(("__class__" : Str), cc)] ["__class__"] [some (.ref C)] s.heap H := by
    have hk : H cc = none := by
      have := (e0.bs cc _ (e0.mod.kin _ _ hcell)).2
      exact this
    have f : ∀ (z : Str) (c' : Addr), List.lookup z [(("__class__" : Str), cc)] = some c' → z = "__class__" ∧ c' = cc := fun z c' h => by
      by_cases q : z = ("__class__" : Str)
      · subst q
        have : some cc = some c' := by simpa [List.lookup] using h
        exact ⟨rfl, (Option.some.inj this).symm⟩
      · have q2 : (z == ("__class__" : Str)) = false := by simpa using q
        simp [List.lookup, q2] at h
    refine ⟨rfl, fun y c hy => ?_, fun x y c hx hy => (f x c hx).1.trans (f y c hy).1.symm, fun i y hi => ?_⟩
    · obtain ⟨_, rfl⟩ := f y c hy
      exact ⟨hk, _, ⟨_, KX _ _ hcell, rfl⟩⟩
    · cases i with
      | zero =>
        have ey : y = "__class__" := (Option.some.inj hi).symm
        subst ey
        exact ⟨cc, by simp [List.lookup], fun v hv => ⟨.ref C, by cases hv; rfl, ⟨_, KX _ _ hcell, rfl⟩⟩⟩
      | succ n => simp at hi
  have I : Inv (ncx CX P w K mg base N (⟨fn_, fq, fp, supS p1 p2 p3 p4 p5 e es :: rest, fs, [(("__class__" : Str), cc)], fc⟩ : NF) fI A outer s H E) [] (startF N (.ref a :: xs) [some (.ref C)]) H { s with heap := h₁, toks := s.toks + ((("self" : Str) :: ps).zip (Value.ref a :: ur)).length } := inv_startN S hr.hd e0 hl r CA hns kp
  refine ks_wpAt_execs_cons (ks_wpAt_Expr_any ?_ (I.quiet) (hsw _))
  obtain ⟨pl, hev⟩ := hev s.heap.objs.size
  refine ks_wpAt_MethodCall ?_ hev
  obtain ⟨ar, hp, har⟩ : ∃ ar, (fp.posonlyargs ++ fp.args).head? = some ar ∧ ar.arg = "self" := by
    cases z : (fp.posonlyargs ++ fp.args).head? with
    | none => rw [z] at hps; cases hps
    | some ar => rw [z] at hps; exact ⟨ar, rfl, Option.some.inj hps⟩
  have hnd : (("self" : Str) :: ps).Nodup := by
    have q := S.nd.sublist (List.take_sublist ((("self" : Str) :: ps).length + [("__class__" : Str)].length) N)
    rw [S.pre] at q
    exact (List.nodup_append.mp q).1
  have hself : ((("self" : Str) :: ps).zip (Value.ref a :: ur)).reverse.lookup ("self" : Str) = some (Value.ref a) := zip_look (i := 0) hnd rfl rfl
  have hcd' : PySem.W.clsIn K C = some { name := nm, bases := bs, mro := .ref C :: bm, ns := N0, qualname := q0, hasDict := true, slotNames := sn, subclasses := sub, abstract := ab, collection := col, hasDel := false } := by unfold PySem.W.clsIn; rw [hC] <;> rfl
  obtain ⟨t1, ho⟩ := exo_at I.hok ea
  have X1 := I.kIn
  refine ks_wpAt_super_base (env := envF (⟨fn_, fq, fp, supS p1 p2 p3 p4 p5 e es :: rest, fs, [(("__class__" : Str), cc)], fc⟩ : NF) fI s.heap.objs.size) hks (S.frk _ List.mem_cons_self) (by decide) rfl (X1 _ _ lk) rfl hp rfl (X1 _ _ hcode) rfl hvs hfile T.top ?_
  obtain ⟨mb, hb1, hb2⟩ := I.mod.blt
  refine PySem.W.ks_loadName_global S.kind hks (PySem.Calls.loadGlobal_builtin (env := envF (⟨fn_, fq, fp, supS p1 p2 p3 p4 p5 e es :: rest, fs, [(("__class__" : Str), cc)], fc⟩ : NF) fI s.heap.objs.size) (I.mod.glob.keeps I.bk) T.zs (hb1.keeps I.bk) ((hb2 _ (by decide +kernel)).trans (show bootBuiltins "super" = some (.type "super") by decide +kernel)) ⟨rfl, ?_⟩)
  refine wpAny_loadName_free S.kind (S.frk _ List.mem_cons_self) rfl ⟨_, X1 _ _ hcell, rfl⟩ ?_
  rw [har]
  refine wpAny_loadName_local S.kind (S.par _ List.mem_cons_self) hns hself ?_
  refine ks_wpAny_isType_cls (X1 _ _ hC) rfl ⟨rfl, ?_⟩
  refine ks_wpAny_call_super (X1 _ _ hC) rfl ho rfl (fun c z => nomatch z) (PySem.W.looks_mroIn X1 T.self) (fun h2 e2 k2 => ?_)
  have I2 := I.kept (t' := s.toks + ((("self" : Str) :: ps).zip (Value.ref a :: ur)).length) k2
  have X2 := I2.kIn
  -- the method
  have hsup := T.sup
  unfold PySem.W.ks_superIn at hsup
  rw [hcd', Option.bind_some] at hsup
  have haC : a ≠ C := fun z => by
    have q1 := X1 _ _ hC
    rw [← z] at q1
    have q2 : some _ = some _ := ho.symm.trans q1
    cases q2
  refine PySem.W.kxs_getMethod PySem.W.kxs_ValueError e2 (PySem.W.looks_opaque X2 T.third) (looks_mro X2 hcd') rfl X2 hsup
    (PySem.W.Looks.andThen (PySem.W.InstAt.type (od := none) ⟨k2 _ _ ho, rfl, rfl, trivial⟩) (PySem.W.looks_subIn X2 T.ve)) haC (by decide) ?_
  have k3' : ∀ b o, h2.get? b = some o → (h2.push (PySem.W.kxs_mw "ValueError.__init__" a)).get? b = some o := fun b o z => Heap.get?_push_of_some _ z
  have hmw : (h2.push (PySem.W.kxs_mw "ValueError.__init__" a)).get? h2.objs.size = some (PySem.W.kxs_mw "ValueError.__init__" a) := Heap.get?_push_at rfl rfl
  have I3 := I2.kept (t' := s.toks + ((("self" : Str) :: ps).zip (Value.ref a :: ur)).length + 1) k3'
  have hfr : H h2.objs.size = none := I2.hok.fresh (Nat.le_refl _)
  have hnL : h2.objs.size ≠ s.heap.objs.size := Nat.ne_of_gt I2.lt
  have hnf : h2.objs.size ∉ (ncx CX P w K mg base N (⟨fn_, fq, fp, supS p1 p2 p3 p4 p5 e es :: rest, fs, [(("__class__" : Str), cc)], fc⟩ : NF) fI A outer s H E).fs := I2.nofs (Nat.le_refl _)
  have I4 : Inv (ncx CX P w K mg base N (⟨fn_, fq, fp, supS p1 p2 p3 p4 p5 e es :: rest, fs, [(("__class__" : Str), cc)], fc⟩ : NF) fI A outer s H E) [(h2.objs.size, PySem.W.kxs_mw "ValueError.__init__" a)] (startF N (.ref a :: xs) [some (.ref C)]) H { s with heap := h2.push (PySem.W.kxs_mw "ValueError.__init__" a), toks := s.toks + ((("self" : Str) :: ps).zip (Value.ref a :: ur)).length + 1 } :=
    I3.pins_of fun p hp => by
      have hp' : p ∈ [(h2.objs.size, PySem.W.kxs_mw "ValueError.__init__" a)] := hp
      obtain rfl := List.mem_singleton.mp hp'
      exact ⟨hmw, hfr, hnL, hnf, fun v z => nomatch z⟩
  refine PySem.W.kxs_callWith (i := "ValueError.__init__") (x := a) ?_ ?_
  · refine Eq.trans (congrArg (fun z => (backTo p4 z).any (·.1)) (he s.heap.objs.size)) ?_
    show (false || (backTo p4 (starEach es (envF (⟨fn_, fq, fp, supS p1 p2 p3 p4 p5 e es :: rest, fs, [(("__class__" : Str), cc)], fc⟩ : NF) fI s.heap.objs.size))).any (·.1)) = false
    rw [hpl]; rfl
  have hrun : wpAny (model P w) (A.deeper (envF (⟨fn_, fq, fp, supS p1 p2 p3 p4 p5 e es :: rest, fs, [(("__class__" : Str), cc)], fc⟩ : NF) fI s.heap.objs.size)) (spliced (backTo p4 (starEach (e :: es) (envF (⟨fn_, fq, fp, supS p1 p2 p3 p4 p5 e es :: rest, fs, [(("__class__" : Str), cc)], fc⟩ : NF) fI s.heap.objs.size)))) _ _ _ := ha.run p4 _ _ _ H _ I4 hq
  rw [he] at hrun
  show wpAny _ _ (evalArgs _ true (backTo p4 (starEach (e :: es) (envF (⟨fn_, fq, fp, supS p1 p2 p3 p4 p5 e es :: rest, fs, [(("__class__" : Str), cc)], fc⟩ : NF) fI s.heap.objs.size))) []) _ _ _
  rw [he]
  refine PySem.Calls.evalArgs_plain (thn hrun fun us' s5 hh => ?_)
  obtain ⟨vs5, H5, I5, r5, l5, ea5, q5⟩ := hh
  have hp5 := I5.pin (h2.objs.size, PySem.W.kxs_mw "ValueError.__init__" a) (List.mem_append_right _ List.mem_cons_self)
  refine ⟨hp5.1, ?_⟩
  refine sup_call T.ox I5 ea5 hp5.1 (by show us'.length ≤ sizeLine; rw [← r5.length, sizeLine_eq]; omega) fun s6 I6 => ?_
  refine wpAt_of_wpAny (wpAny_mono (hrest.run _ s6 _ H5 _ I6 q5) (fun fl s' hs => ?_) fun e s' hs => hs)
  have fin : ∀ {σ' : L2.St} {H' : Hp} {v : V} {u : Value}, Inv (ncx CX P w K mg base N (⟨fn_, fq, fp, supS p1 p2 p3 p4 p5 e es :: rest, fs, [(("__class__" : Str), cc)], fc⟩ : NF) fI A outer s H E) [(h2.objs.size, PySem.W.kxs_mw "ValueError.__init__" a)] σ' H' s' → RelV v u → Q v H' → CE outer P w H s Q u s' :=
    fun {σ' H' v u} J rv q => ⟨v, H', J.os, J.bare, J.base, J.hok, rv, q⟩
  cases fl with
  | ret u =>
    obtain ⟨v, σ', H', J, rv, q⟩ := hs
    exact fin J rv q
  | next =>
    obtain ⟨σ', H', J, q⟩ := hs
    exact fin (v := V.non) (u := Value.none) J rfl q
  | brk =>
    obtain ⟨_, _, _, q⟩ := hs
    exact False.elim q
  | cont =>
    obtain ⟨_, _, _, q⟩ := hs
    exact False.elim q
end
end LB
namespace LB
open PySem PySem.Spec PyProof.Rows L2 NdefX
/-! ### the promise of such an __init__, and what C(..) leaves -/
/-- its fields are told by the arguments -/
def sp_exc (C : Addr) (cond : List V → Prop) (fs : List V → List (Str × V)) (n : Nat) : Sp := fun vs H Q _ => ∃ (a : Addr) (xs : List V), vs = .ref a :: xs ∧ xs.length = n ∧ H a = some (exo a C none) ∧ cond xs ∧
  ∀ (d : Addr) (H' : Hp), H d = none → d ≠ a → H' a = some (exo a C (some d)) → H' d = some (exd d (fs xs)) → (∀ b, b ≠ a → b ≠ d → H' b = H b) → Q .non H'
def tExc (C : Addr) (cond : List V → Prop) (fs : List V → List (Str × V)) (n : Nat) (ta : TA) : L2.St → Hp → XK → Prop := fun σ H Q => ta σ H fun vs H1 => vs.length = n ∧ cond vs ∧ ∀ d, H1 d = none → Q (.ref C) (some d) (upd H1 d (.xd (fs vs)))
structure ExcOk (P : Program) (w : World) (K : PySem.W.Frag) (mg : Str → Option Value) (base : Heap) (C : Addr) (cond : List V → Prop) (fs : List V → List (Str × V)) (n : Nat) : Prop where
  ox : OexC K C
  iC : ∃ fI, PySem.W.findIn K (.ref C) "__init__" = some (some (.ref fI)) ∧ PySem.W.typeIn K (.ref fI) = some (.type "function") ∧ ∃ fd ps, FnOk P w K mg base (L2.CX P w) 1 fI fd ps (sp_exc C cond fs n) ∧ Binds K fd ps []
section
variable {X : Cx} {C : Addr} {cond : List V → Prop} {fs : List V → List (Str × V)} {n : Nat} {x : Str} {p pos pos2 : Pos} {e : Expr} {es : List Expr} {ta : TA} {W : WX}
theorem pmk_exc (T : ExcOk X.prog X.w X.K X.mg X.base C cond fs n) (hn : n ≤ 1000) (hr : Room 2 X.A) (hg : Gl X x) (hm : X.mg x = some (.ref C)) (ha : PA X (e :: es) ta)
    (hdb : (x == ("__debug__" : Str)) = false := by decide) (he : starEach (e :: es) X.env = (false, eval e X.env) :: starEach es X.env := by rfl) (hpl : (backTo pos (starEach es X.env)).any (·.1) = false := by rfl) :
    PMk X (.Call (.Name x p) (e :: es) [] pos) (tExc C cond fs n ta) := by
  obtain ⟨fI, iC, tI, fd, ps, G, b⟩ := T.iC
  have ha2 : PA X (e :: es) (fun σ H R => ∃ R0 : List V → Hp → Prop, ta σ H R0 ∧ ∀ vs H1, R0 vs H1 → R vs H1) := ⟨fun pos pins s σ H R I h => by
    obtain ⟨R0, h0, h1⟩ := h
    refine thn (ha.run pos pins s σ H R0 I h0) fun us s' q => ?_
    obtain ⟨vs, H1, I1, r1, q1⟩ := q
    exact ⟨vs, H1, I1, r1, h1 vs H1 q1⟩⟩
  have key := pmk_oex (CX := L2.CX X.prog X.w) (ds := []) (dvs := []) (pos := pos) (p := p) T.ox iC tI G hr b .nil passX hg hm ha2 hdb he hpl
  intro pins s σ H Q I h
  refine key pins s σ H Q I ⟨_, h, fun vs H1 q => ?_⟩
  obtain ⟨hl, hc, q⟩ := q
  refine ⟨by omega, fun a ha => ?_⟩
  rw [List.append_nil]
  refine ⟨a, vs, rfl, hl, upd_same, hc, fun d H' hd hda e1 e2 e3 => ⟨rfl, d, fs vs, e1, e2, by rw [upd_ne hda] at hd; exact hd, ?_⟩⟩
  have hd1 : H1 d = none := by rw [upd_ne hda] at hd; exact hd
  have eq : upd (del H' a) d (.xd (fs vs)) = upd H1 d (.xd (fs vs)) := by
    funext b
    by_cases hb : b = d
    · rw [hb, upd_same, upd_same]
    · rw [upd_ne hb, upd_ne hb]
      by_cases hba : b = a
      · rw [hba, del_same, ha]
      · rw [del_ne hba, e3 b hba hb, upd_ne hba]
  rw [eq]
  exact q d hd1
theorem ps_raiseX (hc : X.calm = true) (tk : Takes X W) (T : ExcOk X.prog X.w X.K X.mg X.base C cond fs n) (hn : n ≤ 1000) (hr : Room 2 X.A) (hg : Gl X x) (hm : X.mg x = some (.ref C)) (ha : PA X (e :: es) ta)
    (hdb : (x == ("__debug__" : Str)) = false := by decide) (he : starEach (e :: es) X.env = (false, eval e X.env) :: starEach es X.env := by rfl) (hpl : (backTo pos (starEach es X.env)).any (·.1) = false := by rfl) :
    PS X (.Raise (some (.Call (.Name x p) (e :: es) [] pos)) none pos2) (fun _ σ H => tExc C cond fs n ta σ H fun cls d H' => W cls d σ H') := ps_raise hc tk (pmk_exc T hn hr hg hm ha hdb he hpl)
end
/-! ### the class as the text has it -/
/-- C with its __init__ st, as the top leaves them -/
structure XTxt (P : Program) (K : PySem.W.Frag) (mg : Str → Option Value) (qual : Str) (st : Stmt) (C : Addr) : Prop where
  ex : ∃ (fI cc cda : Addr) (oc doc pm ct : Value) (od : Option Addr) (osl : Array (Option Value)), SupC P K mg C fI cc cda ∧
    K.lookup fI = some ⟨oc, od, .func ((⟨"__init__", qual, defArgs st, defBody st, defScope st, [(("__class__" : Str), cc)], cda⟩ : NF).fd doc pm ct), osl⟩ ∧ PySem.W.codeIn K (.ref cda) qual = true
section
variable {P : Program} {w : World} {K : PySem.W.Frag} {mg : Str → Option Value} {base : Heap} {C : Addr} {qual : Str} {st : Stmt} {cond : List V → Prop} {fs : List V → List (Str × V)} {n : Nat} {N ps : List Str} {rest : List Stmt} {p1 p2 p3 p4 p5 : Pos} {e : Expr} {es : List Expr}
theorem XTxt.ok (T : XTxt P K mg qual st C) (hB : defBody st = supS p1 p2 p3 p4 p5 e es :: rest) (hn : n = ps.length)
    (S : NScope N (("self" : Str) :: ps) ["__class__"] (defScope st)) (hps : ((defArgs st).posonlyargs ++ (defArgs st).args).head?.map (·.arg) = some ("self" : Str)) (hks : (defScope st).names.lookup ("super" : Str) = some .globalImplicit)
    (hb : ∀ (cc cda : Addr) (doc pm ct : Value) (us : List Value), us.length = (("self" : Str) :: ps).length → bindArgs ((⟨"__init__", qual, defArgs st, defBody st, defScope st, [(("__class__" : Str), cc)], cda⟩ : NF).fd doc pm ct) ⟨us, []⟩ = pure ((("self" : Str) :: ps).zip us))
    (he : ∀ (cc cda fI L : Addr), starEach (e :: es) (envF ⟨"__init__", qual, defArgs st, defBody st, defScope st, [(("__class__" : Str), cc)], cda⟩ fI L) = (false, eval e (envF ⟨"__init__", qual, defArgs st, defBody st, defScope st, [(("__class__" : Str), cc)], cda⟩ fI L)) :: starEach es (envF ⟨"__init__", qual, defArgs st, defBody st, defScope st, [(("__class__" : Str), cc)], cda⟩ fI L))
    (hpl : ∀ (cc cda fI L : Addr), (backTo p4 (starEach es (envF ⟨"__init__", qual, defArgs st, defBody st, defScope st, [(("__class__" : Str), cc)], cda⟩ fI L))).any (·.1) = false)
    (hsw : ∀ (cc cda fI L : Addr), swapsWith (.Call (.Attribute (.Call (.Name "super" p1) [] [] p2) "__init__" p3) (e :: es) [] p4) none p5.line (envF ⟨"__init__", qual, defArgs st, defBody st, defScope st, [(("__class__" : Str), cc)], cda⟩ fI L) = pure false)
    (hev : ∀ (cc cda fI L : Addr), ∃ pl, eval (.Call (.Attribute (.Call (.Name "super" p1) [] [] p2) "__init__" p3) (e :: es) [] p4) (envF ⟨"__init__", qual, defArgs st, defBody st, defScope st, [(("__class__" : Str), cc)], cda⟩ fI L) = (do
      let ov ← attributeBase (.Call (.Name "super" p1) [] [] p2) "__init__" (envF ⟨"__init__", qual, defArgs st, defBody st, defScope st, [(("__class__" : Str), cc)], cda⟩ fI L) (eval (.Call (.Name "super" p1) [] [] p2) (envF ⟨"__init__", qual, defArgs st, defBody st, defScope st, [(("__class__" : Str), cc)], cda⟩ fI L))
      standAt p3.atName
      let (f, first) ← holding [ov] (getMethod ov "__init__" pl)
      callWith p4 f first (backTo p4 (starEach (e :: es) (envF ⟨"__init__", qual, defArgs st, defBody st, defScope st, [(("__class__" : Str), cc)], cda⟩ fI L))) []))
    (hbody : ∀ (X : Cx) (cc cda fI L : Addr), X.K = K → X.N = N → X.env = envF ⟨"__init__", qual, defArgs st, defBody st, defScope st, [(("__class__" : Str), cc)], cda⟩ fI L → OexC K C →
      ∃ (ta : TA) (t : TS), PA X (e :: es) ta ∧ PSs X rest t ∧ ∀ (a : Addr) (xs : List V) (H : Hp) (Q : VK), xs.length = n → H a = some (exo a C none) → cond xs →
        (∀ (d : Addr) (H' : Hp), H d = none → d ≠ a → H' a = some (exo a C (some d)) → H' d = some (exd d (fs xs)) → (∀ b, b ≠ a → b ≠ d → H' b = H b) → Q .non H') →
        ta (startF N (.ref a :: xs) [some (.ref C)]) H fun us H1 => us.length ≤ 1000 ∧ H1 a = some (exo a C none) ∧ t { nx := fun _ H' => Q .non H', rt := Q } (startF N (.ref a :: xs) [some (.ref C)]) H1) :
    ExcOk P w K mg base C cond fs n := by
  obtain ⟨fI, cc, cda, oc, doc, pm, ct, od, osl, Z, lk, hcd⟩ := T.ex
  refine ⟨Z.ox, fI, Z.iC, Z.tI, _, _, sup_ok (F := ⟨"__init__", qual, defArgs st, defBody st, defScope st, [(("__class__" : Str), cc)], cda⟩) (k := 0) (N := N) (ps := ps) (sp := sp_exc C cond fs n) Z hB rfl rfl lk hcd S hps hks (hb cc cda doc pm ct) (he cc cda fI) (hpl cc cda fI) (hsw cc cda fI) (hev cc cda fI) (fun vs H Q E h => ?_) (fun A outer s H vs Q E h => ?_), .all (hb cc cda doc pm ct)⟩
  · obtain ⟨a, xs, rfl, hl, _⟩ := h
    show xs.length + 1 = ps.length + 1
    omega
  · obtain ⟨a, xs, rfl, hl, ea, hc, q⟩ := h
    obtain ⟨ta, t, h1, h2, h3⟩ := hbody (ncx (L2.CX P w) P w K mg base N ⟨"__init__", qual, defArgs st, defBody st, defScope st, [(("__class__" : Str), cc)], cda⟩ fI A outer s H E) cc cda fI s.heap.objs.size rfl rfl rfl Z.ox
    exact ⟨a, xs, ta, t, rfl, ea, h1, h2, h3 a xs H Q hl ea hc q⟩
/-- two stores behind one another, the first one the exception's first -/
theorem two_stores {K : PySem.W.Frag} {a C : Addr} {f1 f2 : Str} {to1 te1 to2 te2 : TE} {D : Ends} {σ : L2.St} {H : Hp} {y1 y2 : V} (T : OexC K C) (h1 : PySem.W.findIn K (.ref C) f1 = some none) (h2 : PySem.W.findIn K (.ref C) f2 = some none) (ea : H a = some (exo a C none))
    (e1 : ∀ (H1 : Hp) (Q : VK), Q y1 H1 → te1 σ H1 Q) (e2 : ∀ (H1 : Hp) (Q : VK), Q y2 H1 → te2 σ H1 Q) (o1 : ∀ (H1 : Hp) (Q : VK), Q (.ref a) H1 → to1 σ H1 Q) (o2 : ∀ (H1 : Hp) (Q : VK), Q (.ref a) H1 → to2 σ H1 Q)
    (q : ∀ (d : Addr) (H' : Hp), H d = none → d ≠ a → H' a = some (exo a C (some d)) → H' d = some (exd d [(f2, y2), (f1, y1)]) → (∀ b, b ≠ a → b ≠ d → H' b = H b) → D.nx σ H') : tSeq (tOst K f1 to1 te1) (tOst K f2 to2 te2) D σ H := by
  refine e1 _ _ (o1 _ _ ⟨a, C, rfl, T, h1, .inl ⟨ea, fun d hd hda => ?_⟩⟩)
  refine e2 _ _ (o2 _ _ ⟨a, C, rfl, T, h2, .inr ⟨d, [(f1, y1)], upd_same, by rw [upd_ne hda, upd_same], (by show 1 ≤ 900; decide), ?_⟩⟩)
  refine q d _ hd hda (by rw [upd_ne hda.symm, upd_same]) upd_same fun b hb hbd => ?_
  rw [upd_ne hbd, upd_ne hb, upd_ne hbd]
/-- four of them -/
theorem four_stores {K : PySem.W.Frag} {a C : Addr} {f1 f2 f3 f4 : Str} {to1 te1 to2 te2 to3 te3 to4 te4 : TE} {D : Ends} {σ : L2.St} {H : Hp} {y1 y2 y3 y4 : V} (T : OexC K C) (h1 : PySem.W.findIn K (.ref C) f1 = some none) (h2 : PySem.W.findIn K (.ref C) f2 = some none) (h3 : PySem.W.findIn K (.ref C) f3 = some none) (h4 : PySem.W.findIn K (.ref C) f4 = some none) (ea : H a = some (exo a C none))
    (e1 : ∀ (H1 : Hp) (Q : VK), Q y1 H1 → te1 σ H1 Q) (e2 : ∀ (H1 : Hp) (Q : VK), Q y2 H1 → te2 σ H1 Q) (e3 : ∀ (H1 : Hp) (Q : VK), Q y3 H1 → te3 σ H1 Q) (e4 : ∀ (H1 : Hp) (Q : VK), Q y4 H1 → te4 σ H1 Q)
    (o1 : ∀ (H1 : Hp) (Q : VK), Q (.ref a) H1 → to1 σ H1 Q) (o2 : ∀ (H1 : Hp) (Q : VK), Q (.ref a) H1 → to2 σ H1 Q) (o3 : ∀ (H1 : Hp) (Q : VK), Q (.ref a) H1 → to3 σ H1 Q) (o4 : ∀ (H1 : Hp) (Q : VK), Q (.ref a) H1 → to4 σ H1 Q)
    (q : ∀ (d : Addr) (H' : Hp), H d = none → d ≠ a → H' a = some (exo a C (some d)) → H' d = some (exd d [(f4, y4), (f3, y3), (f2, y2), (f1, y1)]) → (∀ b, b ≠ a → b ≠ d → H' b = H b) → D.nx σ H') : tSeq (tOst K f1 to1 te1) (tSeq (tOst K f2 to2 te2) (tSeq (tOst K f3 to3 te3) (tOst K f4 to4 te4))) D σ H := by
  refine e1 _ _ (o1 _ _ ⟨a, C, rfl, T, h1, .inl ⟨ea, fun d hd hda => ?_⟩⟩)
  refine e2 _ _ (o2 _ _ ⟨a, C, rfl, T, h2, .inr ⟨d, [(f1, y1)], upd_same, by rw [upd_ne hda, upd_same], (by show 1 ≤ 900; decide), ?_⟩⟩)
  refine e3 _ _ (o3 _ _ ⟨a, C, rfl, T, h3, .inr ⟨d, [(f2, y2), (f1, y1)], by rw [upd_ne hda.symm, upd_same], upd_same, (by show 2 ≤ 900; decide), ?_⟩⟩)
  refine e4 _ _ (o4 _ _ ⟨a, C, rfl, T, h4, .inr ⟨d, [(f3, y3), (f2, y2), (f1, y1)], by rw [upd_ne hda.symm, upd_ne hda.symm, upd_same], upd_same, (by show 3 ≤ 900; decide), ?_⟩⟩)
  refine q d _ hd hda (by rw [upd_ne hda.symm, upd_ne hda.symm, upd_ne hda.symm, upd_same]) upd_same fun b hb hbd => ?_
  rw [upd_ne hbd, upd_ne hbd, upd_ne hbd, upd_ne hb, upd_ne hbd]
end
end LB

set_option Elab.async false
set_option linter.all false
set_option maxRecDepth 100000
set_option maxHeartbeats 4000000
/-! several except clauses, each with or without a name; what is asked of the caught error -/
namespace LB
open PySem PySem.Spec PyProof.Rows L2
/-- behind a suite its name is empty -/
def goneE (i : Nat) (D : Ends) : Ends where
  nx := fun σ H => D.nx (σ.set i none) H
  rt := D.rt
  bk := fun σ H => D.bk (σ.set i none) H
  ct := fun σ H => D.ct (σ.set i none) H
abbrev Clause := Value × Option Nat × (Addr → Value → Option Addr → TS)
/-- what the suite of a clause is asked, the error at a -/
def inSuite (D : Ends) (nm : Option Nat) (t : TS) (a : Addr) (σ : L2.St) (H : Hp) : Prop := match nm with
  | none => t D σ H
  | some i => t (goneE i D) (σ.set i (some (.ref a))) H
def wX (K : PySem.W.Frag) (Wout : WX) (D : Ends) : List Clause → WX
  | [] => Wout
  | (c, nm, ts) :: r => fun cls d σ H => ∃ b, PySem.W.exmOne K cls c = some b ∧ (b = true → ∀ a, H a = none → inSuite D nm (ts a cls d) a σ H) ∧ (b = false → wX K Wout D r cls d σ H)
inductive HdsX (X : Cx) : List ExceptHandler → List Clause → Prop
  | nil : HdsX X [] []
  | plain {x : Str} {c : Value} {ts : Addr → Value → Option Addr → TS} {st : Stmt} {sts : List Stmt} {q1 q2 : Pos} {hds : List ExceptHandler} {l : List Clause} (hc : Names X x c)
      (suite : ∀ (a : Addr) (oe : Obj) (cls : Value) (d : Option Addr) (pn : List (Addr × Obj)), Zc cls d oe → (∃ us, oe.data = .fields us) → PSs (X.suite a ((a, oe) :: pn)) (st :: sts) (ts a cls d)) (more : HdsX X hds l) :
      HdsX X (.ExceptHandler (some (.Name x q1)) none (st :: sts) q2 :: hds) ((c, none, ts) :: l)
  | named {x n : Str} {i : Nat} {c : Value} {ts : Addr → Value → Option Addr → TS} {st : Stmt} {sts : List Stmt} {q1 q2 : Pos} {hds : List ExceptHandler} {l : List Clause} (hN : X.N.Nodup) (hi : X.N[i]? = some n) (hln : X.env.kindOf n = some .local) (hc : Names X x c)
      (suite : ∀ (a : Addr) (oe : Obj) (cls : Value) (d : Option Addr) (pn : List (Addr × Obj)), Zc cls d oe → (∃ us, oe.data = .fields us) → PSs (X.suite a ((a, oe) :: pn)) (st :: sts) (ts a cls d)) (more : HdsX X hds l) :
      HdsX X (.ExceptHandler (some (.Name x q1)) (some n) (st :: sts) q2 :: hds) ((c, some i, ts) :: l)
section
variable {X : Cx} {pins : List (Addr × Obj)} {σ : L2.St} {H : Hp} {sI sN : Shared} {a : Addr} {B : Heap} {cls : Value} {d : Option Addr}
/-- an error that has landed at this frame: the state without it, the ground, where it stands -/
structure Landed (X : Cx) (pins : List (Addr × Obj)) (σ : L2.St) (H : Hp) (sI sN : Shared) (a : Addr) (B : Heap) (cls : Value) (d : Option Addr) : Prop where
  st : X.stack = X.env :: X.outer
  fr : X.env.frame = some X.env.locals
  I : Inv X pins σ H sI
  nb : ∀ b o, sI.heap.get? b = some o → b ∉ frs X.stack → B.get? b = some o
  up : sI.heap.UpToSlots sN.heap
  na : H a = none
  os : sN.os = sI.os
  ag : AllBare sN.gens
  fly : HandSPX.FlyingZ B (X.env :: X.outer) a (Zc cls d) sN.heap
theorem Landed.inv (L : Landed X pins σ H sI sN a B cls d) : Inv X pins σ H sN := L.I.landed L.nb L.fly.1 L.up L.os L.ag
theorem Landed.off (L : Landed X pins σ H sI sN a B cls d) : a ≠ X.env.locals ∧ a ∉ X.fs := by
  obtain ⟨oe, us, e1, e2, e3⟩ := L.fly.there
  have key : a ∉ frs (X.env :: X.outer) := fun hm => by
    obtain ⟨_, o2, q1, q2⟩ := L.fly.2.2.1.mem hm
    rw [e1] at q1
    cases q1
    exact q2 _ e3
  refine ⟨fun z => key (List.mem_filterMap.mpr ⟨X.env, List.mem_cons_self, by rw [L.fr, z]⟩), fun hm => ?_⟩
  obtain ⟨v, h1, h2⟩ := List.mem_filterMap.mp hm
  exact key (List.mem_filterMap.mpr ⟨v, List.mem_cons_of_mem _ h1, h2⟩)
/-- the clauses, one behind the other -/
theorem clauses {Wout : WX} {D : Ends} (tk : Takes X Wout) (L : Landed X pins σ H sI sN a B cls d) : ∀ {hds : List ExceptHandler} {l : List Clause}, HdsX X hds l → wX X.K Wout D l cls d σ H →
    wpAny (model X.prog X.w) X.A (handleBy (.ref a) X.env hds) (SP X pins D) X.xe sN := by
  intro hds l hk
  have ok := L.I.ok
  have J := L.inv
  obtain ⟨off1, off2⟩ := L.off
  obtain ⟨oe3, us3, g3, z3, f3⟩ := L.fly.there
  have S3 := J.suite g3 f3 L.na off1 off2
  -- a clause's class is read, and asked
  have ask : ∀ {x : Str} {c : Value} {q1 : Pos} {b : Bool} {Q : Bool → Shared → Prop}, Names X x c → PySem.W.exmOne X.K cls c = some b → Q b sN → True := fun _ _ _ => trivial
  have name : ∀ {x : Str} {c : Value} {q1 : Pos} {Q : Value → Shared → Prop} {E : Value → Shared → Prop}, Names X x c → Q c sN → wpAny (model X.prog X.w) (X.A.mark (some (.ref a))) (eval (.Name x q1) X.env) Q E sN := fun hc q => by
    obtain ⟨h1, h2, h3⟩ := hc
    rcases h3 with h3 | ⟨h3, h4, h5⟩
    · exact ld_glob (X := X.suite a ((a, oe3) :: (X.pn ++ pins))) S3 h1 h3 q h2
    · exact ld_blt (X := X.suite a ((a, oe3) :: (X.pn ++ pins))) S3 h1 h3 h4 q h5 h2
  have LT : PySem.W.Looks (model X.prog X.w) sN.heap (typeOf (.ref a)) cls := fun A Q E s k q => wpAny_typeOf_ref (k _ _ g3) (by rw [z3.1]; exact q)
  induction hk with
  | nil =>
    intro wish
    refine wpAny_handleBy_nil ?_
    obtain ⟨_, _, _, oe, us, tr, _, _, e1, e2, e3, e4, _⟩ := id L.fly
    unfold PySem.passOn
    refine wpAny_bind (wpAny_field e1 e3 e4 ?_)
    rw [if_neg (show (Value.ref tr == Value.none) = true → False from by simp)]
    have away : wpAny (model X.prog X.w) X.A (setFlight (.ref a) X.env.frame) (fun _ s4 => wpAny (model X.prog X.w) X.A (throw (.ref a) : Sem Flow) (SP X pins D) X.xe s4) X.xe sN := by
      rw [L.fr]
      refine HandSPX.setFlight_upZ L.fly fun h4 held up4 => wpAny_throw (tk _ _ ?_)
      refine ⟨a, B, sI, pins, σ, H, cls, d, rfl, L.I, L.nb, L.up.trans up4, .inr (.inr ?_), L.na, L.os, L.ag, wish⟩
      rw [L.st]
      exact held
    first
      | exact wpAny_bind (wpAny_pure (wpAny_bind away))
      | exact wpAny_bind away
  | @plain x c ts st sts q1 q2 hds2 l2 hc suite more ih =>
    rintro ⟨b, e1, yes, no⟩
    refine wpAny_handleBy_cons (codeAny_handlers_test ?_) (by intro z; cases z)
    refine name hc ((PySem.W.exm_one (M := model X.prog X.w) J.kIn LT e1).here ?_)
    cases b with
    | false => exact ih (no rfl)
    | true =>
      refine codeAny_handlers_suite (HandSPX.lands_againZ L.fly fun h4 fl4 up4 => ?_)
      have J4 : Inv X pins σ H { sN with heap := h4 } := L.I.landed L.nb fl4.1 (L.up.trans up4) L.os L.ag
      obtain ⟨oe4, us4, g4, z4, f4⟩ := fl4.there
      refine wpAny_mono ((suite a oe4 cls d (X.pn ++ pins) z4 ⟨_, f4⟩).run [] _ _ H _ (J4.suite g4 f4 L.na off1 off2) (yes rfl a L.na)) (fun f s6 out => ?_) (fun _ _ z => False.elim z)
      cases f with
      | ret u =>
        obtain ⟨v6, σ6, H6, S6, r6, k6⟩ := out
        exact ⟨v6, σ6, H6, S6.unsuite ok, r6, k6⟩
      | next =>
        obtain ⟨σ6, H6, S6, k6⟩ := out
        exact ⟨σ6, H6, S6.unsuite ok, k6⟩
      | brk =>
        obtain ⟨σ6, H6, S6, k6⟩ := out
        exact ⟨σ6, H6, S6.unsuite ok, k6⟩
      | cont =>
        obtain ⟨σ6, H6, S6, k6⟩ := out
        exact ⟨σ6, H6, S6.unsuite ok, k6⟩
  | @named x n i c ts st sts q1 q2 hds2 l2 hN hi hln hc suite more ih =>
    rintro ⟨b, e1, yes, no⟩
    refine wpAny_handleBy_cons (codeAny_handlers_test ?_) (by intro z; cases z)
    refine name hc ((PySem.W.exm_one (M := model X.prog X.w) J.kIn LT e1).here ?_)
    cases b with
    | false => exact ih (no rfl)
    | true =>
      refine codeAny_handlers_suite_as (HandSPX.lands_againZ L.fly fun h4 fl4 up4 => ?_)
      have J4 : Inv X pins σ H { sN with heap := h4 } := L.I.landed L.nb fl4.1 (L.up.trans up4) L.os L.ag
      obtain ⟨oe4, us4, g4, z4, f4⟩ := fl4.there
      refine store_ok (X := X.suite a ((a, oe4) :: (X.pn ++ pins))) (v := .ref a) (J4.suite g4 f4 L.na off1 off2) hN hi (.inl hln) rfl (fun s5 S5 => ?_) (.inr hln)
      have leave : ∀ {σ6 : L2.St} {H6 : Hp} {s6 : Shared} {Q : Shared → Prop}, Inv (X.suite a ((a, oe4) :: (X.pn ++ pins))) [] σ6 H6 s6 → (∀ s7, Inv X pins (σ6.set i none) H6 s7 → Q s7) →
          wpAny (model X.prog X.w) X.A (do bindName X.env n .none; unbindBehindTheSuite X.env n q2) (fun _ s7 => Q s7) X.xe s6 := fun S6 k => gone_ok (S6.unsuite ok) hN hi hln k
      refine wpAny_mono ((suite a oe4 cls d (X.pn ++ pins) z4 ⟨_, f4⟩).run [] s5 _ H _ S5 (yes rfl a L.na)) (fun f s6 out => ?_) (fun _ _ z => False.elim z)
      cases f with
      | ret u =>
        obtain ⟨v6, σ6, H6, S6, r6, k6⟩ := out
        exact leave S6 fun s7 J7 => ⟨v6, _, H6, J7, r6, k6⟩
      | next =>
        obtain ⟨σ6, H6, S6, k6⟩ := out
        exact leave S6 fun s7 J7 => ⟨_, H6, J7, k6⟩
      | brk =>
        obtain ⟨σ6, H6, S6, k6⟩ := out
        exact leave S6 fun s7 J7 => ⟨_, H6, J7, k6⟩
      | cont =>
        obtain ⟨σ6, H6, S6, k6⟩ := out
        exact leave S6 fun s7 J7 => ⟨_, H6, J7, k6⟩
end
section
variable {X : Cx} {body : List Stmt} {hd₀ : ExceptHandler} {hds : List ExceptHandler} {l : List Clause} {pos : Pos} {tb : WX → TS} {Wout : WX}
theorem ps_tryX (st : X.stack = X.env :: X.outer) (fr : X.env.frame = some X.env.locals) (tk : Takes X Wout)
    (hb : ∀ (W : WX) (pn : List (Addr × Obj)) (xe : Value → Shared → Prop), Takes (X.tr pn xe) W → PassesOwn (model X.prog X.w) X.A X.env xe → PSs (X.tr pn xe) body (tb W)) (hh : HdsX X (hd₀ :: hds) l) :
    PS X (.Try body (hd₀ :: hds) [] [] pos) (fun D σ H => tb (wX X.K Wout D l) D σ H) := by
  refine ⟨fun pins s σ H D I h => ?_⟩
  have ok := I.ok
  have hfr : X.A.frames = some (X.env :: X.outer) := by rw [ok.frames, st]
  have run := hb (wX X.K Wout D l) (X.pn ++ pins) (fun er s1 => wpAny (model X.prog X.w) X.A (noteFrame er X.env) (fun _ s2 => wpAny (model X.prog X.w) X.A (setFlight er none) (fun _ s3 =>
    wpAny (model X.prog X.w) X.A (handleBy er X.env (hd₀ :: hds)) (SP X pins D) X.xe s3) X.xe s2) X.xe s1) (fun u sN air => ?_) PassesOwn.looking
  · refine wpAny_Try_except (wpAny_mono (run.run [] s σ H D (I.toTry _) h) (fun f s1 out => ?_) (fun er s1 he => he))
    cases f with
    | ret u =>
      obtain ⟨v6, σ6, H6, S6, r6, k6⟩ := out
      exact ⟨v6, σ6, H6, S6.ofTry ok, r6, k6⟩
    | next =>
      obtain ⟨σ6, H6, S6, k6⟩ := out
      exact wpAny_execs_nil ⟨σ6, H6, S6.ofTry ok, k6⟩
    | brk =>
      obtain ⟨σ6, H6, S6, k6⟩ := out
      exact ⟨σ6, H6, S6.ofTry ok, k6⟩
    | cont =>
      obtain ⟨σ6, H6, S6, k6⟩ := out
      exact ⟨σ6, H6, S6.ofTry ok, k6⟩
  · obtain ⟨a, B, sI, pins', σ', H', cls, d, rfl, J', nb, up, sky, na, os, ag, wish⟩ := air
    have sky' : Sky B (X.env :: X.outer) a (Zc cls d) X.env.locals sN.heap := by rw [← st]; exact sky
    refine Sky.land Zc.steady hfr fr sky' fun h3 fl3 up3 => ?_
    exact clauses (sN := { sN with heap := h3 }) tk ⟨st, fr, J'.ofTry ok, nb, up.trans up3, na, os, ag, fl3⟩ hh wish
end
end LB
/-! ### isinstance of the caught error -/
namespace PySem.W
open PySem PySem.Spec PySem.Calls PyProof.Rows
section
variable {prog : Program} {w : World} {A : Around} {E : Value → Shared → Prop} {s : Shared} {K : Frag} {x D : Addr} {ox : Obj} {od : Option Obj}
/-- what is asked of the class -/
structure LbExc (K : Frag) (D : Addr) : Prop where
  ga : findIn K (.ref D) "__getattribute__" = some (some (.builtin "BaseException.__getattribute__"))
  gg : findIn K (.ref D) "__getattr__" = some none
  sb : subIn K (.ref D) (.type "BaseException") = some true
  hd : hasDictIn K D = true
  ha : findIn K (.ref D) "__class__" = some (some (.builtin "object.__class__"))
  hn : specialIn K (.builtin "object.__class__") "__get__" = some (some (.builtin "getset_descriptor.__get__"))
  ht : takesIn K (.builtin "object.__class__") = some true
  hm : mroIn K D (.type "object") = some true
theorem lb_find (C : LbExc K D) : findObj K D od "__class__" = some (.bind (.builtin "getset_descriptor.__get__") (.builtin "object.__class__")) := by
  obtain ⟨cd, hc, _⟩ := any_some C.hd
  unfold findObj
  rw [hc, Option.bind_some, C.ha, Option.bind_some]
  simp [C.hn, C.ht]
theorem lb_class {Q : Option Value → Shared → Prop} (C : LbExc K D) (X : K.In s.heap) (I : InstAt s.heap x ox D od) (h : Q (some (.ref D)) { s with toks := s.toks + 1 }) : wpAny (model prog w) A (getAttr? (.ref x) "__class__") Q E s := by
  obtain ⟨hp, g, d, t, os⟩ := s
  have T := I.type (M := model prog w)
  have F3 := looks_find (M := model prog w) X I (lb_find (od := od) C)
  have ne : (Value.builtin "BaseException.__getattribute__" == Value.builtin "object.__getattribute__") = false := by decide +kernel
  unfold getAttr? getAttrBy? getAttrBy
  refine wpAny_bind (wpAny_mkText (wpAny_bind (wpAny_attempt (wpAny_holding (wpAny_bind (T.at (wpAny_bind ((looks_findIn (M := model prog w) X C.ga).at ?_))))))))
  dsimp only
  rw [if_neg (show ¬ (onTheHeap (Value.ref D) && Value.builtin "BaseException.__getattribute__" == Value.builtin "object.__getattribute__") = true by rw [ne, Bool.and_false]; exact Bool.false_ne_true)]
  unfold getAttrByItsOwn hookBefore
  refine wpAny_bind ?_
  rw [if_pos (show onTheHeap (Value.ref D) = true from rfl)]
  refine (looks_findIn (M := model prog w) X C.gg).at (wpAny_bind (wpAny_attempt (wpAny_holding ?_)))
  unfold callGetattribute
  rw [if_neg (show ¬ (false && onTheHeap (Value.builtin "BaseException.__getattribute__")) = true from Bool.false_ne_true)]
  unfold boundAndCalled
  rw [PySem.F.excAttr_ValueError.ga.bind (.ref x)]
  refine wpAny_bind (wpAny_pure (wpAny_call (codeAny_call_builtin PySem.F.excAttr_ValueError.ga.plain PySem.F.entry_bexc_ga ?_)))
  refine @check_slot (model prog w) _ _ ⟨hp, g, d, t + 1, os⟩ "BaseException.__getattribute__" "BaseException" "__getattribute__" (.ref x) [.str "__class__" t] [] _ (by decide +kernel) (by decide +kernel) (T.andThen (looks_subIn X C.sb)) (PySem.F.args_bexc_ga (.ref x) (.str "__class__" t)) ?_
  unfold Builtin.«object.__getattribute__»
  refine wpAny_bind (wpAny_of_eq (a := ((Value.ref x : Value), [Value.str "__class__" t])) (by first | rfl | (simp only [slotArgs]; rfl)) (wpAny_bind (wpAny_pure (wpAny_bind (T.at (wpAny_bind (F3.at ?_)))))))
  refine wpAny_bind (wpAny_holding (wpAny_call (class_get (s := ⟨hp, g, d, t + 1, os⟩) (ox := ox) (od := od) X I C.hm ?_)))
  refine wpAny_pure ?_
  show wpAny _ _ (handedOut (.ref D)) _ _ _
  rw [handedOut_of (v := .ref D) rfl]
  first
    | exact wpAny_pure (wpAny_pure h)
    | exact wpAny_pure h
    | exact wpAny_pure (wpAny_bind (wpAny_pure (wpAny_pure h)))
theorem lb_kit (C : LbExc K D) : KitX K (.ref x) (.ref D) (fun h => ∃ ox od, InstAt h x ox D od) where
  ty := fun _ _ _ ⟨_, _, I⟩ => I.type
  it := fun _ _ X _ => by
    obtain ⟨cdD, hcD, _⟩ := any_some C.hd
    unfold clsIn at hcD
    split at hcD
    · rename_i ho
      intro A' Q' E' s' k q
      unfold isType loadHead
      exact wpAny_bind (wpAny_loadPart (k _ _ (X _ _ ho)) (wpAny_pure q))
    · cases hcD
  ne := fun h tp dd its n sl X htp => by
    obtain ⟨cdD, hcD, _⟩ := any_some C.hd
    refine Bool.eq_false_iff.mpr fun q => ?_
    obtain rfl : D = tp := Value.ref.inj (beq_iff_eq.mp q)
    unfold clsIn at hcD
    split at hcD
    · rename_i ho
      have z := (X _ _ ho).symm.trans htp
      cases z
    · cases hcD
  ca := fun X ⟨_, _, I⟩ k => lb_class C X I k
end
end PySem.W
namespace LB
open PySem PySem.Spec PyProof.Rows L2
@[irreducible] def rIsX (K : PySem.W.Frag) (a D : Addr) (cls : Value) (d : Option Addr) : List V → Hp → VK → Prop := fun xs H Q => ∃ (c : V) (cv : Value) (b : Bool), xs = [.ref a, c] ∧ cls = .ref D ∧ ClsV c cv ∧ PySem.W.kitOne K (.ref D) cv = some b ∧ (∃ dd fs, d = some dd ∧ H dd = some (.xd fs)) ∧ Q (.bl b) H
theorem call_isX {X : Cx} {a D : Addr} {oe : Obj} {cls : Value} {d : Option Addr} {pn : List (Addr × Obj)} (C : PySem.W.LbExc X.K D) (hz : Zc cls d oe) (hf : ∃ vs, oe.data = .fields vs) : CallR (X.suite a ((a, oe) :: pn)) (.builtin "isinstance") (rIsX X.K a D cls d) := by
  intro pins s σ H xs us Q I r h
  unfold rIsX at h
  obtain ⟨c, cv, b, rfl, rfl, hcv, e, ⟨dd, fs, rfl, ed⟩, q⟩ := h
  obtain ⟨u1, u2, rfl, r1, r2⟩ := vals2 r
  obtain rfl := hcv.eq r2
  obtain rfl : u1 = Value.ref a := r1
  obtain ⟨hget, _⟩ := I.pin (a, oe) (List.mem_append.mpr (.inl List.mem_cons_self))
  obtain ⟨vs, hv⟩ := hf
  have hx : ObjOk X.prog X.w H s.heap dd (.xd fs) := I.hok dd _ ed
  obtain ⟨mA, ⟨od, _, _, ho, _⟩, _⟩ := hx
  have J : PySem.W.InstAt s.heap a oe D (some od) := ⟨hget, hz.1, by unfold PySem.W.notCls; rw [hv] <;> rfl, by rw [hz.2]; exact ho⟩
  exact PySem.W.kia_one (PySem.W.lb_kit C) I.kIn ⟨oe, some od, J⟩ e (fun z => nomatch z) fun tk => ⟨.bl b, H, I.kept (t' := tk) fun _ _ z => z, rfl, q⟩
end LB
namespace LB
open PySem PySem.Spec PyProof.Rows L2
/-- an exception class of the text: what raising, catching and asking want of it -/
structure ECls (K : PySem.W.Frag) (C : Addr) : Prop where
  lx : PySem.W.LbExc K C
  ty : PySem.W.typeIn K (.ref C) = some (.type "type")
  self : PySem.W.mroIn K C (.ref C) = some true
theorem ECls.isCls {K : PySem.W.Frag} {C : Addr} (E : ECls K C) : ((PySem.W.clsIn K C).isSome && PySem.W.typeIn K (.ref C) == some (.type "type")) = true := by
  obtain ⟨cd, hc, _⟩ := PySem.W.any_some E.lx.hd
  rw [hc, E.ty]
  rfl
theorem ECls.exm {K : PySem.W.Frag} {Y C : Addr} {b : Bool} (E : ECls K C) (h : PySem.W.subIn K (.ref Y) (.ref C) = some b) : PySem.W.exmOne K (.ref Y) (.ref C) = some b :=
  PySem.W.exm_ref E.lx.sb E.lx.hd E.ty h
theorem ECls.kit {K : PySem.W.Frag} {Y C : Addr} {b : Bool} (E : ECls K C) (h : PySem.W.subIn K (.ref Y) (.ref C) = some b) : PySem.W.kitOne K (.ref Y) (.ref C) = some b := by
  unfold PySem.W.kitOne
  by_cases e : (Value.ref Y == Value.ref C) = true
  · rw [if_pos e]
    have e2 : Y = C := Value.ref.inj (beq_iff_eq.mp e)
    subst e2
    have h2 : PySem.W.mroIn K Y (.ref Y) = some b := h
    rw [E.self] at h2
    exact h2
  · rw [if_neg e]
    show (if ((PySem.W.clsIn K C).isSome && PySem.W.typeIn K (.ref C) == some (.type "type")) = true then PySem.W.subIn K (.ref Y) (.ref C) else none) = some b
    rw [if_pos E.isCls]
    exact h
theorem kit_ve {K : PySem.W.Frag} {Y : Addr} {b : Bool} (h : PySem.W.subIn K (.ref Y) (.type "ValueError") = some b) : PySem.W.kitOne K (.ref Y) (.type "ValueError") = some b := by
  unfold PySem.W.kitOne
  rw [if_neg (show ¬ (Value.ref Y == Value.type "ValueError") = true from fun z => nomatch beq_iff_eq.mp z)]
  show (if PySem.W.kitMeta "ValueError" = true then PySem.W.subIn K (.ref Y) (.type "ValueError") else none) = some b
  rw [if_pos (by decide +kernel)]
  exact h
theorem ECls.xf {K : PySem.W.Frag} {C : Addr} (E : ECls K C) : XfC K C := ⟨E.lx.ga, E.lx.gg, E.lx.sb, E.lx.hd⟩
/-- what an error with one own field holds -/
def fs1 (label field : Str) : List V → List (Str × V) := fun xs => [(field, xs.headD .non), ("label", .str label)]
def text1 : List V → Prop := fun xs => ∃ z : Str, xs = [.str z] ∧ z.length ≤ 1000000
theorem text_len (a z : Str) (h1 : a.length ≤ 1000) (h2 : z.length ≤ 1000000) : (Str.empty ++ a).length ≤ sizeLine ∧ (Str.empty ++ a ++ z).length ≤ sizeLine := by
  have e1 : ∀ x y : Str, (x ++ y).length = x.length + y.length := fun x y => Array.size_append
  have e0 : Str.empty.length = 0 := rfl
  rw [e1, e1, e1, e0, sizeLine_eq]
  omega
section
variable {K : PySem.W.Frag}
theorem wx_hit {Wout : WX} {D : Ends} {c cls : Value} {nm : Option Nat} {ts : Addr → Value → Option Addr → TS} {r : List Clause} {d : Option Addr} {σ : L2.St} {H : Hp} (e : PySem.W.exmOne K cls c = some true) (h : ∀ a, H a = none → inSuite D nm (ts a cls d) a σ H) :
    wX K Wout D ((c, nm, ts) :: r) cls d σ H := ⟨true, e, fun _ => h, fun z => nomatch z⟩
theorem wx_miss {Wout : WX} {D : Ends} {c cls : Value} {nm : Option Nat} {ts : Addr → Value → Option Addr → TS} {r : List Clause} {d : Option Addr} {σ : L2.St} {H : Hp} (e : PySem.W.exmOne K cls c = some false) (h : wX K Wout D r cls d σ H) :
    wX K Wout D ((c, nm, ts) :: r) cls d σ H := ⟨false, e, fun z => (nomatch z), fun _ => h⟩
theorem isX_go {a D C dd : Addr} {fs : List (Str × V)} {b : Bool} {H : Hp} {Q : VK} (k : PySem.W.kitOne K (.ref D) (.ref C) = some b) (e : H dd = some (.xd fs)) (q : Q (.bl b) H) : rIsX K a D (.ref D) (some dd) [.ref a, .ref C] H Q := by
  unfold rIsX
  exact ⟨_, _, b, rfl, rfl, .own _, k, ⟨dd, fs, rfl, e⟩, q⟩
theorem isX_ve {a D dd : Addr} {fs : List (Str × V)} {b : Bool} {H : Hp} {Q : VK} (k : PySem.W.subIn K (.ref D) (.type "ValueError") = some b) (e : H dd = some (.xd fs)) (q : Q (.bl b) H) : rIsX K a D (.ref D) (some dd) [.ref a, .ty "ValueError"] H Q := by
  unfold rIsX
  exact ⟨_, _, b, rfl, rfl, .ty _, kit_ve k, ⟨dd, fs, rfl, e⟩, q⟩
end
end LB

set_option Elab.async false
set_option linter.all false
set_option maxRecDepth 100000
set_option maxHeartbeats 4000000
/-! dicts that the top has written, with text keys -/
namespace LB
open PySem PySem.Spec PyProof.Rows L2
def kget : List (Str × V) → Str → Option V
  | [], _ => none
  | (k, v) :: r, z => if k = z then some v else kget r z
def dictB : List (Str × V) → List DictEntry → Bool
  | [], [] => true
  | (k, v) :: r, e :: es => (match e.key with
    | .str x _ => decide (x = k)
    | _ => false) && relB v e.val && dictB r es
  | _, _ => false
/-- what stands at the key z -/
def KAt (K : PySem.W.Frag) (d : Addr) (z : Str) (r : Option V) : Prop := ∃ u, PySem.W.nsIn K d z = some u ∧ match r, u with
  | some v, some w => RelV v w
  | none, none => True
  | _, _ => False
theorem find_at {z : Str} : ∀ {kvs : List (Str × V)} {es : List DictEntry}, dictB kvs es = true → es.any (·.refKey) = false ∧ (match kget kvs z, es.find? (·.key.isStr z) with
    | some v, some e => RelV v e.val
    | none, none => True
    | _, _ => False)
  | [], [], _ => ⟨rfl, by simp [kget]⟩
  | (k, v) :: r, e :: es, h => by
    have h1 := Bool.and_eq_true_iff.mp h
    have h2 := Bool.and_eq_true_iff.mp h1.1
    obtain ⟨i1, i2⟩ := find_at (z := z) h1.2
    obtain ⟨hash, key, val⟩ := e
    cases key with
    | str x t =>
      have ex : x = k := of_decide_eq_true h2.1
      subst ex
      refine ⟨?_, ?_⟩
      · rw [List.any_cons, i1]
        rfl
      · by_cases c : x = z
        · subst c
          simp only [kget, if_true, List.find?_cons, Value.isStr, beq_self_eq_true]
          exact relB_ok h2.2
        · have e2 : (x == z) = false := by simpa using c
          simp only [kget, c, if_false, List.find?_cons, Value.isStr, e2]
          exact i2
    | none => exact (Bool.false_ne_true h2.1).elim
    | ellipsis => exact (Bool.false_ne_true h2.1).elim
    | notImplemented => exact (Bool.false_ne_true h2.1).elim
    | bool b => exact (Bool.false_ne_true h2.1).elim
    | int b t => exact (Bool.false_ne_true h2.1).elim
    | float b t => exact (Bool.false_ne_true h2.1).elim
    | bytes b t => exact (Bool.false_ne_true h2.1).elim
    | type b => exact (Bool.false_ne_true h2.1).elim
    | builtin b => exact (Bool.false_ne_true h2.1).elim
    | ref b => exact (Bool.false_ne_true h2.1).elim
  | [], _ :: _, h => by cases h
  | _ :: _, [], h => by cases h
theorem kat_of {K : PySem.W.Frag} {d : Addr} {es : Array DictEntry} {n : Nat} {kvs : List (Str × V)} (l : K.lookup d = some ⟨.type "dict", none, .dict es n, #[]⟩) (h : dictB kvs es.toList = true) (z : Str) : KAt K d z (kget kvs z) := by
  obtain ⟨h1, h2⟩ := find_at (z := z) h
  unfold KAt PySem.W.nsIn
  rw [l]
  simp only
  cases e : es.toList.find? (·.key.isStr z) with
  | none =>
    rw [e] at h2
    refine ⟨none, ?_, ?_⟩
    · simp only [h1]
      rfl
    · cases f : kget kvs z with
      | none => trivial
      | some v => rw [f] at h2; exact h2
  | some w =>
    rw [e] at h2
    refine ⟨some w.val, rfl, ?_⟩
    cases f : kget kvs z with
    | none => rw [f] at h2; exact h2
    | some v => rw [f] at h2; exact h2
@[irreducible] def rKIn (K : PySem.W.Frag) (d : Addr) : R2 := fun x y H Q => ∃ (z : Str) (r : Option V), x = .str z ∧ y = .ref d ∧ KAt K d z r ∧ Q (.bl r.isSome) H
@[irreducible] def rKNotIn (K : PySem.W.Frag) (d : Addr) : R2 := fun x y H Q => ∃ (z : Str) (r : Option V), x = .str z ∧ y = .ref d ∧ KAt K d z r ∧ Q (.bl (!r.isSome)) H
@[irreducible] def rKGet (K : PySem.W.Frag) (d : Addr) : R2 := fun x y H Q => ∃ (z : Str) (v : V), x = .ref d ∧ y = .str z ∧ KAt K d z (some v) ∧ Q v H
section
variable {X : Cx} {d : Addr}
theorem op_kin (D : ∃ es n, KDict X.K X.w d es n) : OpR X (compareOp .In) (rKIn X.K d) := fun pins s σ H x y v u Q I rx ry h => by
  obtain ⟨es, n, D⟩ := D
  unfold rKIn at h
  obtain ⟨z, r, rfl, rfl, ⟨u0, h1, h2⟩, q⟩ := h
  refine op_in_kd D pins s σ H _ _ v u Q I rx ry ⟨z, u0, rfl, rfl, h1, ?_⟩
  have : u0.isSome = r.isSome := by
    cases r <;> cases u0 <;> first | rfl | exact h2.elim
  rw [this]
  exact q
theorem op_kni (D : ∃ es n, KDict X.K X.w d es n) : OpR X (compareOp .NotIn) (rKNotIn X.K d) := fun pins s σ H x y v u Q I rx ry h => by
  obtain ⟨es, n, D⟩ := D
  unfold rKNotIn at h
  obtain ⟨z, r, rfl, rfl, ⟨u0, h1, h2⟩, q⟩ := h
  refine op_notIn_kd D pins s σ H _ _ v u Q I rx ry ⟨z, u0, rfl, rfl, h1, ?_⟩
  have : u0.isSome = r.isSome := by
    cases r <;> cases u0 <;> first | rfl | exact h2.elim
  rw [this]
  exact q
theorem ix_kd (D : ∃ es n, KDict X.K X.w d es n) : IxR X (rKGet X.K d) := fun value slice pins s σ H x y v u Q I rx ry h hs => by
  obtain ⟨es, n, D⟩ := D
  unfold rKGet at h
  obtain ⟨z, v0, rfl, rfl, ⟨u0, h1, h2⟩, q⟩ := h
  cases u0 with
  | none => exact h2.elim
  | some u1 => exact ix_kdict value slice pins s σ H _ _ v u Q I rx ry ⟨d, z, v0, rfl, rfl, ⟨es, n, u1, D.at_, D.lit, h1, h2⟩, q⟩ hs
end
section
variable {K : PySem.W.Frag} {d : Addr} {z : Str} {r : Option V} {v : V} {H : Hp} {Q : VK}
theorem kin_go (g : KAt K d z r) (q : Q (.bl r.isSome) H) : rKIn K d (.str z) (.ref d) H Q := by
  unfold rKIn
  exact ⟨z, r, rfl, rfl, g, q⟩
theorem kni_go (g : KAt K d z r) (q : Q (.bl (!r.isSome)) H) : rKNotIn K d (.str z) (.ref d) H Q := by
  unfold rKNotIn
  exact ⟨z, r, rfl, rfl, g, q⟩
theorem kget_go (g : KAt K d z r) (e : r = some v) (q : Q v H) : rKGet K d (.ref d) (.str z) H Q := by
  subst e
  unfold rKGet
  exact ⟨z, v, rfl, rfl, g, q⟩
end
end LB

/-! days, months, years -/
namespace LB
open PySem PySem.Spec PyProof.Rows L2
/-- a leap year -/
def leapP (y : Int) : Prop := y % 4 = 0 ∧ (y % 100 ≠ 0 ∨ y % 400 = 0)
instance (y : Int) : Decidable (leapP y) := inferInstanceAs (Decidable (_ ∧ _))
def leapB (y : Int) : Bool := decide (leapP y)
def leapN (y : Int) : Int := if leapP y then 1 else 0
/-- the first day of a year -/
def ystart (y : Int) : Int := 365 * (y - 2000) + (y - 2000 + 3) / 4 - (y - 2000 + 99) / 100 + (y - 2000 + 399) / 400
theorem leapN_b (y : Int) : (if leapB y = true then (1 : Int) else 0) = leapN y := by
  unfold leapB leapN
  by_cases h : leapP y
  · rw [if_pos h, if_pos (decide_eq_true h)]
  · rw [if_neg h, if_neg (by rw [decide_eq_false h]; decide)]
theorem leapN_01 (y : Int) : leapN y = 0 ∨ leapN y = 1 := by unfold leapN; split <;> simp
theorem ystart_next (y : Int) : ystart (y + 1) = ystart y + 365 + leapN y := by
  unfold ystart leapN
  by_cases h : leapP y
  · rw [if_pos h]
    unfold leapP at h
    omega
  · rw [if_neg h]
    unfold leapP at h
    omega
theorem ystart_0 : ystart 2000 = 0 := by decide
theorem ystart_end : ystart 2200 = 73049 := by decide
theorem ystart_low (k : Int) (h : 0 ≤ k) : ystart (2000 + k) ≤ 366 * k := by
  unfold ystart
  omega
theorem ystart_lt {y z : Int} (h : y < z) : ystart y + 365 ≤ ystart z := by
  unfold ystart
  omega
theorem ystart_mono {y z : Int} (h : y ≤ z) : ystart y ≤ ystart z := by
  unfold ystart
  omega
/-- the days of a month -/
def mlen (y m : Int) : Int := if m = 2 then 28 + leapN y else if m = 4 ∨ m = 6 ∨ m = 9 ∨ m = 11 then 30 else 31
/-- the days of the year before a month -/
def mstart (y m : Int) : Int :=
  if m ≤ 1 then 0 else if m = 2 then 31 else leapN y + (if m = 3 then 59 else if m = 4 then 90 else if m = 5 then 120 else if m = 6 then 151 else if m = 7 then 181 else if m = 8 then 212 else if m = 9 then 243 else if m = 10 then 273 else if m = 11 then 304 else if m = 12 then 334 else 365)
theorem mstart_next (y m : Int) (h1 : 1 ≤ m) (h2 : m ≤ 12) : mstart y (m + 1) = mstart y m + mlen y m := by
  unfold mstart mlen
  rcases (by omega : m = 1 ∨ m = 2 ∨ m = 3 ∨ m = 4 ∨ m = 5 ∨ m = 6 ∨ m = 7 ∨ m = 8 ∨ m = 9 ∨ m = 10 ∨ m = 11 ∨ m = 12) with rfl | rfl | rfl | rfl | rfl | rfl | rfl | rfl | rfl | rfl | rfl | rfl <;> simp <;> omega
theorem mstart_1 (y : Int) : mstart y 1 = 0 := by unfold mstart; simp
theorem mstart_13 (y : Int) : mstart y 13 = 365 + leapN y := by unfold mstart; simp; omega
theorem mlen_pos (y m : Int) : 28 ≤ mlen y m ∧ mlen y m ≤ 31 := by
  have := leapN_01 y
  unfold mlen
  split
  · omega
  · split <;> omega
/-- the day of that date -/
def dayOf (y m d : Int) : Int := ystart y + mstart y m + d - 1
/-- (y, m, d) is a date -/
structure IsDate (y m d : Int) : Prop where
  y0 : 2000 ≤ y
  y1 : y ≤ 2199
  m0 : 1 ≤ m
  m1 : m ≤ 12
  d0 : 1 ≤ d
  d1 : d ≤ mlen y m
theorem mstart_mono (y : Int) {m n : Int} (h0 : 1 ≤ m) (h : m < n) (h1 : n ≤ 13) : mstart y m + mlen y m ≤ mstart y n := by
  have key : ∀ k : Nat, m + 1 + k ≤ 13 → mstart y (m + 1) ≤ mstart y (m + 1 + k) := by
    intro k
    induction k with
    | zero => intro _; simp
    | succ k ih =>
      intro hk
      have := ih (by omega)
      have e := mstart_next y (m + 1 + k) (by omega) (by omega)
      have := mlen_pos y (m + 1 + k)
      rw [show m + 1 + ((k + 1 : Nat) : Int) = m + 1 + k + 1 by omega, e]
      omega
  have := key (n - (m + 1)).toNat (by omega)
  rw [mstart_next y m h0 (by omega)] at this
  rw [show m + 1 + ((n - (m + 1)).toNat : Int) = n by omega] at this
  exact this
theorem date_in_year {y m d : Int} (h : IsDate y m d) : ystart y ≤ dayOf y m d ∧ dayOf y m d < ystart (y + 1) := by
  have h1 := mstart_mono y h.m0 (n := 13) (by have := h.m1; omega) (by omega)
  rw [mstart_13] at h1
  have h2 := ystart_next y
  have h3 : 0 ≤ mstart y m := by
    by_cases e : m = 1
    · rw [e, mstart_1]; omega
    · have := mstart_mono y (m := 1) (n := m) (by omega) (by have := h.m0; omega) (by have := h.m1; omega)
      rw [mstart_1] at this
      have := mlen_pos y 1
      omega
  have := h.d0
  have := h.d1
  unfold dayOf
  omega
theorem date_range {y m d : Int} (h : IsDate y m d) : 0 ≤ dayOf y m d ∧ dayOf y m d ≤ 73048 := by
  have h1 := date_in_year h
  have h2 := ystart_mono h.y0
  have h3 := ystart_mono (y := y + 1) (z := 2200) (by have := h.y1; omega)
  rw [ystart_0] at h2
  rw [ystart_end] at h3
  omega
theorem date_inj {y m d y' m' d' : Int} (h : IsDate y m d) (h' : IsDate y' m' d') (e : dayOf y m d = dayOf y' m' d') : y = y' ∧ m = m' ∧ d = d' := by
  have a := date_in_year h
  have b := date_in_year h'
  have ey : y = y' := by
    rcases Int.lt_trichotomy y y' with l | l | l
    · have := ystart_mono (y := y + 1) (z := y') (by omega)
      omega
    · exact l
    · have := ystart_mono (y := y' + 1) (z := y) (by omega)
      omega
  subst ey
  have em : m = m' := by
    unfold dayOf at e
    have := h.d0; have := h.d1; have := h'.d0; have := h'.d1
    rcases Int.lt_trichotomy m m' with l | l | l
    · have := mstart_mono y h.m0 l (by have := h'.m1; omega)
      omega
    · exact l
    · have := mstart_mono y h'.m0 l (by have := h.m1; omega)
      omega
  subst em
  unfold dayOf at e
  exact ⟨rfl, rfl, by omega⟩
theorem mtab (y m : Int) (h1 : 1 ≤ m) (h2 : m ≤ 12) (h : m ≠ 2) : atI [V.int 31, V.int 28, V.int 31, V.int 30, V.int 31, V.int 30, V.int 31, V.int 31, V.int 30, V.int 31, V.int 30, V.int 31] (m - 1) = some (V.int (mlen y m)) := by
  rcases (by omega : m = 1 ∨ m = 3 ∨ m = 4 ∨ m = 5 ∨ m = 6 ∨ m = 7 ∨ m = 8 ∨ m = 9 ∨ m = 10 ∨ m = 11 ∨ m = 12) with rfl | rfl | rfl | rfl | rfl | rfl | rfl | rfl | rfl | rfl | rfl <;> rfl
theorem mlen_2 (y : Int) : (28 : Int) + (if leapB y = true then (1 : Int) else 0) = mlen y 2 := by rw [leapN_b]; rfl
theorem mlen_2' (y : Int) : (if leapB y = true then (29 : Int) else 28) = mlen y 2 := by
  rw [← mlen_2]
  split <;> rfl
theorem mlen_in {y m : Int} (h : inV (V.int m) [V.int 4, V.int 6, V.int 9, V.int 11] = true) : mlen y m = 30 := by
  have e : m = 4 ∨ m = 6 ∨ m = 9 ∨ m = 11 := by
    simp only [inV, eqV, List.any, Bool.or_false, Bool.or_eq_true, beq_iff_eq] at h
    omega
  unfold mlen
  rw [if_neg (by omega), if_pos e]
theorem mlen_out {y m : Int} (h : inV (V.int m) [V.int 4, V.int 6, V.int 9, V.int 11] = false) (h2 : m ≠ 2) : mlen y m = 31 := by
  have e : ¬ (m = 4 ∨ m = 6 ∨ m = 9 ∨ m = 11) := by
    simp only [inV, eqV, List.any, Bool.or_false, Bool.or_eq_false_iff, beq_eq_false_iff_ne] at h
    omega
  unfold mlen
  rw [if_neg h2, if_neg e]
/-! ### every day has a date -/
theorem year_ex {d : Int} (h0 : 0 ≤ d) : ∀ k : Nat, d < ystart (2000 + (k : Int)) → ∃ y, 2000 ≤ y ∧ y < 2000 + (k : Int) ∧ ystart y ≤ d ∧ d < ystart (y + 1)
  | 0, h => by
    rw [show (2000 : Int) + ((0 : Nat) : Int) = 2000 from rfl, ystart_0] at h
    omega
  | k + 1, h => by
    by_cases c : d < ystart (2000 + (k : Int))
    · obtain ⟨y, h1, h2, h3, h4⟩ := year_ex h0 k c
      exact ⟨y, h1, by omega, h3, h4⟩
    · exact ⟨2000 + (k : Int), by omega, by omega, by omega, by rw [show (2000 : Int) + ((k + 1 : Nat) : Int) = 2000 + (k : Int) + 1 by omega] at h; exact h⟩
theorem month_ex (y : Int) {r : Int} (h0 : 0 ≤ r) : ∀ k : Nat, k ≤ 12 → r < mstart y (1 + (k : Int)) → ∃ m, 1 ≤ m ∧ m < 1 + (k : Int) ∧ mstart y m ≤ r ∧ r < mstart y m + mlen y m
  | 0, _, h => by
    rw [show (1 : Int) + ((0 : Nat) : Int) = 1 from rfl, mstart_1] at h
    omega
  | k + 1, hk, h => by
    by_cases c : r < mstart y (1 + (k : Int))
    · obtain ⟨m, h1, h2, h3, h4⟩ := month_ex y h0 k (by omega) c
      exact ⟨m, h1, by omega, h3, h4⟩
    · refine ⟨1 + (k : Int), by omega, by omega, by omega, ?_⟩
      rw [← mstart_next y (1 + (k : Int)) (by omega) (by omega), show (1 : Int) + (k : Int) + 1 = 1 + ((k + 1 : Nat) : Int) by omega]
      exact h
theorem date_ex {d : Int} (h0 : 0 ≤ d) (h1 : d ≤ 73048) : ∃ y m x, IsDate y m x ∧ dayOf y m x = d := by
  obtain ⟨y, a1, a2, a3, a4⟩ := year_ex h0 200 (by rw [show (2000 : Int) + ((200 : Nat) : Int) = 2200 from rfl, ystart_end]; omega)
  have e := ystart_next y
  have e13 := mstart_13 y
  obtain ⟨m, b1, b2, b3, b4⟩ := month_ex y (r := d - ystart y) (by omega) 12 (by decide) (by rw [show (1 : Int) + ((12 : Nat) : Int) = 13 from rfl]; omega)
  exact ⟨y, m, d - ystart y - mstart y m + 1, ⟨a1, by omega, b1, by omega, by omega, by omega⟩, by unfold dayOf; omega⟩
theorem date_lt {y m d y' m' d' : Int} (h : IsDate y m d) (h' : IsDate y' m' d') (e : 12 * y + m < 12 * y' + m') : dayOf y m d < dayOf y' m' d' := by
  have a := date_in_year h
  have b := date_in_year h'
  have := h.m0; have := h.m1; have := h'.m0; have := h'.m1
  by_cases c : y < y'
  · have := ystart_mono (y := y + 1) (z := y') (by omega)
    omega
  · have ey : y = y' := by omega
    subst ey
    have l := mstart_mono y (m := m) (n := m') (by omega) (by omega) (by omega)
    have := h.d1
    have := h'.d0
    unfold dayOf
    omega
end LB

set_option Elab.async false
set_option linter.all false
set_option maxRecDepth 100000
set_option maxHeartbeats 4000000
/-! day counts: the plain side -/
namespace LB
open PySem PySem.Spec PyProof.Rows L2
def partsOf (z : Str) : Option Int := if z = "actual/365" then some 365 else if z = "actual/360" then some 360 else if z = "30/360" then some 360 else if z = "actual/actual" then some 133590 else none
/-- a day's place on the scale of a convention -/
def posOf (z : Str) (y m x : Int) : Int := if z = "actual/365" ∨ z = "actual/360" then dayOf y m x else if z = "30/360" then 360 * (y - 2000) + 30 * (m - 1) + (if 30 < x then 30 else x) - 1 else 133590 * (y - 2000) + (dayOf y m x - ystart y) * (if leapB y = true then 365 else 366)
theorem in_two {x a b : Str} : inV (.str x) [.str a, .str b] = true ↔ x = a ∨ x = b := by
  show ((a == x) || ((b == x) || false)) = true ↔ _
  rw [Bool.or_false, Bool.or_eq_true, beq_iff_eq, beq_iff_eq]
  exact ⟨fun h => h.elim (fun e => .inl e.symm) fun e => .inr e.symm, fun h => h.elim (fun e => .inl e.symm) fun e => .inr e.symm⟩
theorem posOf_act {z : Str} (h : z = "actual/365" ∨ z = "actual/360") (y m x : Int) : posOf z y m x = dayOf y m x := by
  unfold posOf
  rw [if_pos h]
theorem posOf_30 {z : Str} (h : ¬ (z = "actual/365" ∨ z = "actual/360")) (h2 : z = "30/360") (y m x : Int) : posOf z y m x = 360 * (y - 2000) + 30 * (m - 1) + (if 30 < x then 30 else x) - 1 := by
  unfold posOf
  rw [if_neg h, if_pos h2]
theorem posOf_aa {z : Str} (h : ¬ (z = "actual/365" ∨ z = "actual/360")) (h2 : ¬ z = "30/360") (y m x : Int) : posOf z y m x = 133590 * (y - 2000) + (dayOf y m x - ystart y) * (if leapB y = true then 365 else 366) := by
  unfold posOf
  rw [if_neg h, if_neg h2]
theorem date_ex3 {d : Int} (h0 : 0 ≤ d) (h1 : d ≤ 73048) : ∃ t : Int × Int × Int, IsDate t.1 t.2.1 t.2.2 ∧ dayOf t.1 t.2.1 t.2.2 = d := by
  obtain ⟨y, m, x, h⟩ := date_ex h0 h1
  exact ⟨(y, m, x), h⟩
noncomputable def dOf (d : Int) : Int × Int × Int := if h : 0 ≤ d ∧ d ≤ 73048 then Classical.choose (date_ex3 h.1 h.2) else (2000, 1, 1)
theorem dOf_is {d : Int} (h0 : 0 ≤ d) (h1 : d ≤ 73048) : IsDate (dOf d).1 (dOf d).2.1 (dOf d).2.2 ∧ dayOf (dOf d).1 (dOf d).2.1 (dOf d).2.2 = d := by
  unfold dOf
  rw [dif_pos ⟨h0, h1⟩]
  exact Classical.choose_spec (date_ex3 h0 h1)
noncomputable def posD (z : Str) (d : Int) : Int := posOf z (dOf d).1 (dOf d).2.1 (dOf d).2.2
theorem posD_is {z : Str} {y m x d : Int} (hI : IsDate y m x) (hD : dayOf y m x = d) : posOf z y m x = posD z d := by
  have r := date_range hI
  rw [hD] at r
  have k := dOf_is r.1 r.2
  obtain ⟨e1, e2, e3⟩ := date_inj hI k.1 (hD.trans k.2.symm)
  unfold posD
  rw [← e1, ← e2, ← e3]
end LB

set_option Elab.async false
set_option linter.all false
set_option maxRecDepth 100000
set_option maxHeartbeats 4000000
/-! lists of tuples -/
namespace LB
open PySem PySem.Spec PyProof.Rows L2
/-- an object that may be written -/
def mutO : HO → Bool
  | .lst _ => true
  | .dK _ => true
  | .dT _ => true
  | .set _ _ => true
  | .ins _ _ _ => true
  | .own _ => true
  | .xd _ => true
  | _ => false
section
variable {K : PySem.W.Frag} {H H' : Hp} {a b D : Addr} {o o' : HO} {xs ys : List V}
theorem tup_put (e : H D = some o) (m : mutO o = true) (h : SqT K H a xs) : SqT K (upd H D o') a xs := by
  rcases h with (h | ⟨u, h⟩) | h
  · refine .inl (.inl ?_)
    rw [upd_ne (ne_of h e (by intro z; cases z; cases m))]
    exact h
  · refine .inl (.inr ⟨u, ?_⟩)
    rw [upd_ne (ne_of h e (by intro z; cases z; cases m))]
    exact h
  · exact .inr h
theorem tup_uniq (h1 : H a = some (.tup xs)) (h2 : H a = some (.tup ys)) : xs = ys := by
  rw [h1] at h2
  cases h2
  rfl
/-- vs are the addresses of the tuples rows -/
structure Tups (K : PySem.W.Frag) (H : Hp) (vs : List V) (rows : List (List V)) : Prop where
  len : vs.length = rows.length
  at_ : ∀ (i : Nat) (r : List V), rows[i]? = some r → ∃ a : Addr, vs[i]? = some (V.ref a) ∧ SqT K H a r
theorem Tups.nil : Tups K H [] [] := ⟨rfl, fun i r h => by simp at h⟩
theorem Tups.mono {vs : List V} {rows : List (List V)} (h : Tups K H vs rows) (f : ∀ a r, SqT K H a r → SqT K H' a r) : Tups K H' vs rows := ⟨h.len, fun i r e => by
  obtain ⟨a, h1, h2⟩ := h.at_ i r e
  exact ⟨a, h1, f a r h2⟩⟩
theorem Tups.same {vs : List V} {rows : List (List V)} (e : Same H H') (h : Tups K H vs rows) : Tups K H' vs rows := h.mono fun _ _ => same_tup e
theorem Tups.upd {vs : List V} {rows : List (List V)} (e : H D = none) (h : Tups K H vs rows) : Tups K (upd H D o) vs rows := h.mono fun _ _ => tup_upd e
theorem Tups.put {vs : List V} {rows : List (List V)} (e : H D = some o) (m : mutO o = true) (h : Tups K H vs rows) : Tups K (L2.upd H D o') vs rows := h.mono fun _ _ => tup_put e m
theorem Tups.snoc {vs : List V} {rows : List (List V)} {r : List V} (h : Tups K H vs rows) (t : SqT K H a r) : Tups K H (vs ++ [.ref a]) (rows ++ [r]) := by
  refine ⟨by simp [h.len], fun i z e => ?_⟩
  by_cases c : i < rows.length
  · rw [List.getElem?_append_left c] at e
    obtain ⟨b, h1, h2⟩ := h.at_ i z e
    exact ⟨b, by rw [List.getElem?_append_left (by rw [h.len]; exact c)]; exact h1, h2⟩
  · rw [List.getElem?_append_right (by omega)] at e
    have ei : i - rows.length = 0 := by
      by_cases z0 : i - rows.length = 0
      · exact z0
      · rw [List.getElem?_eq_none (by simp; omega)] at e
        cases e
    rw [ei] at e
    cases e
    refine ⟨a, ?_, t⟩
    rw [List.getElem?_append_right (by rw [h.len]; omega), h.len, ei]
    rfl
theorem Tups.append {vs us : List V} {rows more : List (List V)} (h : Tups K H vs rows) (g : Tups K H us more) : Tups K H (vs ++ us) (rows ++ more) := by
  refine ⟨by simp [h.len, g.len], fun i z e => ?_⟩
  by_cases c : i < rows.length
  · rw [List.getElem?_append_left c] at e
    obtain ⟨b, h1, h2⟩ := h.at_ i z e
    exact ⟨b, by rw [List.getElem?_append_left (by rw [h.len]; exact c)]; exact h1, h2⟩
  · rw [List.getElem?_append_right (by omega)] at e
    obtain ⟨b, h1, h2⟩ := g.at_ _ z e
    exact ⟨b, by rw [List.getElem?_append_right (by rw [h.len]; omega), h.len]; exact h1, h2⟩
theorem Tups.take {vs : List V} {rows : List (List V)} (h : Tups K H vs rows) (n : Nat) : Tups K H (vs.take n) (rows.take n) := by
  refine ⟨by simp [h.len], fun i z e => ?_⟩
  rw [List.getElem?_take] at e
  split at e
  · rename_i c
    obtain ⟨b, h1, h2⟩ := h.at_ i z e
    exact ⟨b, by rw [List.getElem?_take, if_pos c]; exact h1, h2⟩
  · cases e
theorem Tups.drop {vs : List V} {rows : List (List V)} (h : Tups K H vs rows) (n : Nat) : Tups K H (vs.drop n) (rows.drop n) := by
  refine ⟨by simp [h.len], fun i z e => ?_⟩
  rw [List.getElem?_drop] at e
  obtain ⟨b, h1, h2⟩ := h.at_ _ z e
  exact ⟨b, by rw [List.getElem?_drop]; exact h1, h2⟩
theorem Tups.cons {vs : List V} {rows : List (List V)} {r : List V} (t : SqT K H a r) (h : Tups K H vs rows) : Tups K H (.ref a :: vs) (r :: rows) := by
  refine ⟨by simp [h.len], fun i z e => ?_⟩
  cases i with
  | zero =>
    cases e
    exact ⟨a, rfl, t⟩
  | succ j => exact h.at_ j z e
theorem Tups.of_cons {vs : List V} {rows : List (List V)} {r : List V} (h : Tups K H vs (r :: rows)) : ∃ (a : Addr) (us : List V), vs = V.ref a :: us ∧ SqT K H a r ∧ Tups K H us rows := by
  obtain ⟨a, h1, h2⟩ := h.at_ 0 r rfl
  cases vs with
  | nil => cases h1
  | cons v us =>
    cases h1
    exact ⟨a, us, rfl, h2, by have := h.len; simpa using this, fun i z e => h.at_ (i + 1) z e⟩
theorem Tups.dp : ∀ {rows : List (List V)} {vs : List V}, Tups K H vs rows → (∀ r ∈ rows, r.all flatS = true) → DpAll K H vs (rows.map fun r => .tuple (r.map pd))
  | [], vs, h, _ => by
    have := h.len
    cases vs with
    | nil => exact .nil
    | cons v us => simp at this
  | r :: rows, vs, h, f => by
    obtain ⟨a, us, rfl, t, g⟩ := h.of_cons
    exact .cons (.tup t (dpAll_pd (f r (List.mem_cons_self ..)))) (Tups.dp g fun z hz => f z (List.mem_cons_of_mem _ hz))
end
def eqLL : List (List V) → List (List V) → Bool
  | [], [] => true
  | x :: xs, y :: ys => eqL x y && eqLL xs ys
  | _, _ => false
theorem layRows : ∀ {rows : List (List V)}, (∀ r ∈ rows, r.all flatS = true) → PyData.canLayAll0 (rows.map fun r => PyData.tuple (r.map pd)) = true ∧ PyData.depthAll (rows.map fun r => PyData.tuple (r.map pd)) ≤ 1
  | [], _ => ⟨by simp only [List.map, PyData.canLayAll0], by simp only [List.map, PyData.depthAll]; omega⟩
  | r :: rows, f => by
    have a := layAll_pd (f r (List.mem_cons_self ..))
    have b := layRows fun z hz => f z (List.mem_cons_of_mem r hz)
    simp only [List.map, PyData.canLayAll0, PyData.depthAll, PyData.canLay0, PyData.depth, a.1, a.2, b.1]
    refine ⟨rfl, ?_⟩
    have := b.2
    omega
theorem shapedRows {rows : List (List V)} (f : ∀ r ∈ rows, r.all flatS = true) : SeqAt.shaped (.list (rows.map fun r => PyData.tuple (r.map pd))) = true := by
  have a := layRows f
  unfold SeqAt.shaped
  simp only [PyData.canLay0, PyData.depth, a.1, Bool.true_and]
  exact decide_eq_true (by have := a.2; omega)
theorem eqvRows : ∀ {xs ys : List (List V)}, (∀ r ∈ xs, r.all flatS = true) → (∀ r ∈ ys, r.all flatS = true) → PyData.eqvAll (xs.map fun r => PyData.tuple (r.map pd)) (ys.map fun r => PyData.tuple (r.map pd)) = eqLL xs ys
  | [], [], _, _ => by simp only [List.map, PyData.eqvAll, eqLL]
  | [], _ :: _, _, _ => by simp only [List.map, PyData.eqvAll, eqLL]
  | _ :: _, [], _, _ => by simp only [List.map, PyData.eqvAll, eqLL]
  | x :: xs, y :: ys, h, k => by
    simp only [List.map, PyData.eqvAll, PyData.eqv, eqLL, eqvAll_pd (h x (List.mem_cons_self ..)) (k y (List.mem_cons_self ..)), eqvRows (fun z hz => h z (List.mem_cons_of_mem _ hz)) (fun z hz => k z (List.mem_cons_of_mem _ hz))]
/-- == of ints, texts, and None alone is equality -/
def sharpV : V → Bool
  | .int _ => true
  | .str _ => true
  | .non => true
  | _ => false
theorem eqV_iff {x y : V} (hx : sharpV x = true) (hy : sharpV y = true) : eqV x y = decide (x = y) := by
  cases x <;> first | cases hx | skip
  all_goals cases y <;> first | cases hy | skip
  all_goals first | (rw [Bool.eq_iff_iff]; simp [eqV]) | simp [eqV]
theorem eqL_iff : ∀ {xs ys : List V}, xs.all sharpV = true → ys.all sharpV = true → eqL xs ys = decide (xs = ys)
  | [], [], _, _ => by simp [eqL]
  | [], _ :: _, _, _ => by simp [eqL]
  | _ :: _, [], _, _ => by simp [eqL]
  | x :: xs, y :: ys, h, k => by
    have h2 := Bool.and_eq_true_iff.mp (List.all_cons .. ▸ h)
    have k2 := Bool.and_eq_true_iff.mp (List.all_cons .. ▸ k)
    rw [eqL, eqV_iff h2.1 k2.1, eqL_iff h2.2 k2.2]
    by_cases c1 : x = y <;> by_cases c2 : xs = ys <;> simp [c1, c2]
theorem eqLL_iff : ∀ {xs ys : List (List V)}, (∀ r ∈ xs, r.all sharpV = true) → (∀ r ∈ ys, r.all sharpV = true) → eqLL xs ys = decide (xs = ys)
  | [], [], _, _ => by simp [eqLL]
  | [], _ :: _, _, _ => by simp [eqLL]
  | _ :: _, [], _, _ => by simp [eqLL]
  | x :: xs, y :: ys, h, k => by
    rw [eqLL, eqL_iff (h x (List.mem_cons_self ..)) (k y (List.mem_cons_self ..)), eqLL_iff (fun z hz => h z (List.mem_cons_of_mem _ hz)) (fun z hz => k z (List.mem_cons_of_mem _ hz))]
    by_cases c1 : x = y <;> by_cases c2 : xs = ys <;> simp [c1, c2]
theorem eqLL_self : ∀ {xs : List (List V)}, (∀ r ∈ xs, r.all flatS = true) → eqLL xs xs = true
  | [], _ => rfl
  | x :: xs, h => by rw [eqLL, eqL_self (h x (List.mem_cons_self ..)), eqLL_self (fun z hz => h z (List.mem_cons_of_mem _ hz))]; rfl
section
variable {K : PySem.W.Frag} {H : Hp} {a b : Addr} {vs us : List V} {xs ys : List (List V)} {Q : VK}
theorem eqD_R (h1 : SqL K H a vs) (t1 : Tups K H vs xs) (h2 : SqL K H b us) (t2 : Tups K H us ys) (f1 : ∀ r ∈ xs, r.all flatS = true) (f2 : ∀ r ∈ ys, r.all flatS = true) (q : Q (.bl (eqLL xs ys)) H) : rEqD K (.ref a) (.ref b) H Q := by
  refine ⟨_, _, .lst h1 (t1.dp f1), .lst h2 (t2.dp f2), shapedRows f1, shapedRows f2, ?_⟩
  simp only [PyData.eqv, eqvRows f1 f2]
  exact q
theorem neD_R (h1 : SqL K H a vs) (t1 : Tups K H vs xs) (h2 : SqL K H b us) (t2 : Tups K H us ys) (f1 : ∀ r ∈ xs, r.all flatS = true) (f2 : ∀ r ∈ ys, r.all flatS = true) (q : Q (.bl (!eqLL xs ys)) H) : rNeD K (.ref a) (.ref b) H Q := by
  refine ⟨_, _, .lst h1 (t1.dp f1), .lst h2 (t2.dp f2), shapedRows f1, shapedRows f2, ?_⟩
  simp only [PyData.eqv, eqvRows f1 f2]
  exact q
end
/-! ### rows of ints -/
/-- a tuple of ints -/
def irow (r : List Int) : List V := r.map V.int
theorem irow_flat (r : List Int) : (irow r).all flatS = true := flatI
theorem irow_sharp (r : List Int) : (irow r).all sharpV = true := by
  unfold irow
  rw [List.all_map]
  exact List.all_eq_true.mpr fun _ _ => rfl
theorem irow_inj {r s : List Int} (h : irow r = irow s) : r = s := by
  unfold irow at h
  exact (List.map_inj_right (fun x y e => V.int.inj e)).mp h
theorem irows_flat {rs : List (List Int)} : ∀ r ∈ rs.map irow, r.all flatS = true := by
  intro r h
  obtain ⟨z, _, rfl⟩ := List.mem_map.mp h
  exact irow_flat z
theorem irows_sharp {rs : List (List Int)} : ∀ r ∈ rs.map irow, r.all sharpV = true := by
  intro r h
  obtain ⟨z, _, rfl⟩ := List.mem_map.mp h
  exact irow_sharp z
theorem irows_inj {r s : List (List Int)} (h : r.map irow = s.map irow) : r = s := (List.map_inj_right (fun x y e => irow_inj e)).mp h
theorem eqLL_i {xs ys : List (List Int)} : eqLL (xs.map irow) (ys.map irow) = decide (xs = ys) := by
  rw [eqLL_iff irows_sharp irows_sharp]
  by_cases c : xs = ys
  · rw [decide_eq_true c, decide_eq_true (by rw [c])]
  · rw [decide_eq_false c, decide_eq_false fun z => c (irows_inj z)]
/-! ### cut lists -/
theorem cutV_lo {xs : List V} {k : Nat} (h : k ≤ xs.length) : cutV xs none (some (k : Int)) = xs.take k := by
  unfold cutV
  have e1 : HT.sIx xs.length 0 none = 0 := rfl
  have e2 : HT.sIx xs.length xs.length (some (k : Int)) = k := by
    simp only [HT.sIx]
    split <;> omega
  rw [e1, e2, List.drop_zero, Nat.sub_zero]
theorem cutV_hi {xs : List V} {k : Nat} (h : k ≤ xs.length) : cutV xs (some (k : Int)) none = xs.drop k := by
  unfold cutV
  have e1 : HT.sIx xs.length 0 (some (k : Int)) = k := by
    simp only [HT.sIx]
    split <;> omega
  have e2 : HT.sIx xs.length xs.length none = xs.length := rfl
  rw [e1, e2, List.take_of_length_le (by simp)]
section
variable {K : PySem.W.Frag} {H : Hp} {a p t : Addr} {us : List V} {rows : List (List V)} {r : List V}
theorem Tups.set (h : Tups K H us rows) (t : SqT K H a r) (k : Nat) : Tups K H (us.set k (.ref a)) (rows.set k r) := by
  refine ⟨by simp [h.len], fun i z e => ?_⟩
  rw [List.getElem?_set] at e ⊢
  by_cases c : k = i
  · rw [if_pos c] at e ⊢
    split at e
    · rename_i c2
      rw [if_pos (by rw [h.len]; exact c2)]
      cases e
      exact ⟨a, rfl, t⟩
    · cases e
  · rw [if_neg c] at e ⊢
    exact h.at_ i z e
theorem app_tups {o : List V} (hp : H p = some (.lst o)) (nt : H t = none) (h : Tups K H us rows) {o' : HO} : Tups K (L2.upd (L2.upd H t (.tup r)) p o') (us ++ [.ref t]) (rows ++ [r]) := ((h.upd nt).snoc (t_of upd_same)).put (hp_upd nt hp) rfl
theorem atI_neg1 {xs : List V} {k : Nat} {v : V} (h : xs.length = k + 1) (e : xs[k]? = some v) : atI xs (-1) = some v := by
  unfold atI
  have e1 : ixN xs.length (-1) = some k := by
    unfold ixN
    rw [if_neg (by decide), if_pos (by omega)]
    congr 1
    omega
  rw [e1]
  exact e
theorem ixN_neg1 {n k : Nat} (h : n = k + 1) : ixN n (-1) = some k := by
  unfold ixN
  rw [if_neg (by decide), if_pos (by omega)]
  congr 1
  omega
theorem ixN_nat {n k : Nat} {i : Int} (e : i = k) (h : k < n) : ixN n i = some k := by
  subst e
  unfold ixN
  rw [if_pos (by omega), if_pos (by omega)]
  simp
/-- the tuple at place i -/
theorem Tups.get (h : Tups K H us rows) {i : Nat} (e : rows[i]? = some r) : ∃ a : Addr, atI us (i : Int) = some (V.ref a) ∧ SqT K H a r := by
  obtain ⟨a, h1, h2⟩ := h.at_ i r e
  exact ⟨a, atI_nat h1, h2⟩
theorem Tups.last (h : Tups K H us (rows ++ [r])) : ∃ a : Addr, atI us (-1) = some (V.ref a) ∧ SqT K H a r := by
  obtain ⟨a, h1, h2⟩ := h.at_ rows.length r (by simp)
  exact ⟨a, atI_neg1 (k := rows.length) (by rw [h.len]; simp) h1, h2⟩
end
end LB

set_option Elab.async false
set_option linter.all false
set_option maxRecDepth 100000
set_option maxHeartbeats 4000000
/-! objects of own classes: calls of methods and of classes that may raise, also within a try -/
namespace LB
open PySem PySem.Spec PyProof.Rows L2
section
variable {X : Cx} {CX : CXT} {k : Nat} {C f : Addr} {fd : FuncData} {ps : List Str} {sp : Sp} {E : L2.St → XK} {m x : Str} {o e : Expr} {es : List Expr} {ta : TE} {t : TA} {p pos apos : Pos}
/-- o.m(e, ..): the receiver stands ahead of the arguments -/
def tMethS (C : Addr) (m : Str) (sp : Sp) (E : L2.St → XK) (ta : TE) (t : TA) : TE := fun σ H Q => ta σ H fun y H1 => ∃ a dx fs,
  y = .ref a ∧ H1 a = some (.ins C dx fs) ∧ fs.lookup m = none ∧ t σ H1 fun vs H2 => sp (.ref a :: vs) H2 Q (E σ)
theorem pe_methX {pl : Sem Bool} (F : FnOk X.prog X.w X.K X.mg X.base CX k f fd ps sp) (hr : Room k X.A)
    (c : Cls X.K C) (hm : Meth X.K C m f) (hb : Binds X.K fd ps []) (hx : ∀ σ, PassesAt CX X σ (E σ)) (he : PE X o ta) (ha : PA X (e :: es) t)
    (hst : starEach (e :: es) X.env = (false, eval e X.env) :: starEach es X.env := by rfl)
    (hpl : (backTo pos (starEach es X.env)).any (·.1) = false := by rfl)
    (ht : eval (.Call (.Attribute o m apos) (e :: es) [] pos) X.env = (eval o X.env >>= fun ov => standAt apos.atName >>= fun _ =>
      holding [ov] (getMethod ov m pl) >>= fun r => callWith pos r.1 r.2 (backTo pos (starEach (e :: es) X.env)) (backToKw pos (keywordEach [] X.env))) := by rfl) :
    PE X (.Call (.Attribute o m apos) (e :: es) [] pos) (tMethS C m sp E ta t) := by
  constructor
  intro pins s σ H Q I h
  refine PySem.W.methodCall_KW (pl := pl) ?_ ht
  refine thn (he.run pins s σ H _ I h) ?_
  rintro u s1 ⟨y, H1, I1, ry, a, dx, fs, rfl, ea, l, q⟩
  cases (show u = Value.ref a from ry)
  refine getmeth_ok I1 ea c hm l (PySem.W.callWith_K (first := [.ref a]) (h₀ := X.base) I.ok.mod.kin hm.kp ?_ hst hpl)
  refine thn (ha.run pos pins s1 σ H1 _ I1 q) ?_
  rintro us s2 ⟨vs, H2, I2, rv, q2⟩
  exact ⟨I2.kIn, run_fnS (us := .ref a :: us) (vs := .ref a :: vs) F hr hb (hx σ) I2 (.cons rfl rv) q2⟩
theorem pe_methX0 {pl : Sem Bool} (F : FnOk X.prog X.w X.K X.mg X.base CX k f fd ps sp) (hr : Room k X.A)
    (c : Cls X.K C) (hm : Meth X.K C m f) (hb : Binds X.K fd ps []) (hx : ∀ σ, PassesAt CX X σ (E σ)) (he : PE X o ta)
    (ht : eval (.Call (.Attribute o m apos) [] [] pos) X.env = (eval o X.env >>= fun ov => standAt apos.atName >>= fun _ =>
      holding [ov] (getMethod ov m pl) >>= fun r => callWith pos r.1 r.2 (backTo pos (starEach [] X.env)) (backToKw pos (keywordEach [] X.env))) := by rfl) :
    PE X (.Call (.Attribute o m apos) [] [] pos) (tMethS C m sp E ta tNil) := by
  constructor
  intro pins s σ H Q I h
  refine PySem.W.methodCall_KW (pl := pl) ?_ ht
  refine thn (he.run pins s σ H _ I h) ?_
  rintro u s1 ⟨y, H1, I1, ry, a, dx, fs, rfl, ea, l, q⟩
  cases (show u = Value.ref a from ry)
  exact getmeth_ok I1 ea c hm l (PySem.W.callWith_K0 (first := [.ref a]) I1.kIn hm.kp (run_fnS (us := [.ref a]) (vs := [.ref a]) F hr hb (hx σ) I1 (.cons rfl .nil) q))
/-- C(e, ..): a new instance goes through __init__ -/
def tMakeS (C : Addr) (sp : Sp) (E : L2.St → XK) (t : TA) : TE := fun σ H Q => t σ H fun vs H1 => ∀ y dy, H1 y = none → H1 dy = none → dy ≠ y →
  sp (.ref y :: vs) (upd (upd H1 dy (.own y)) y (.ins C dy [])) (fun v H2 => v = .non ∧ Q (.ref y) H2) (E σ)
theorem make_runX {pins : List (Addr × Obj)} {s : Shared} {σ : L2.St} {H : Hp} {Q : VK} {us : List Value} {vs : List V} (M : Mk X.K C f) (F : FnOk X.prog X.w X.K X.mg X.base CX k f fd ps sp) (hr : Room (k + 1) X.A)
    (hb : Binds X.K fd ps []) (hx : PassesAt CX X σ (E σ)) (I : Inv X pins σ H s) (r : Vals vs us)
    (h : ∀ y dy, H y = none → H dy = none → dy ≠ y → sp (.ref y :: vs) (upd (upd H dy (.own y)) y (.ins C dy [])) (fun v H2 => v = .non ∧ Q (.ref y) H2) (E σ)) :
    wpAny (model X.prog X.w) X.A (call (.ref C) us) (EP X pins σ Q) X.xe s := by
  have J := Inv.made (C := C) I
  have g := h (s.heap.objs.size + 1) s.heap.objs.size (I.hok.fresh (Nat.le_succ _)) (I.hok.fresh (Nat.le_refl _)) (Nat.ne_of_lt (Nat.lt_succ_self s.heap.objs.size))
  have rr : Vals (V.ref (s.heap.objs.size + 1) :: vs) (Value.ref (s.heap.objs.size + 1) :: us) := Paired.cons (show RelV (V.ref (s.heap.objs.size + 1)) (Value.ref (s.heap.objs.size + 1)) from rfl) r
  have n : (Value.ref (s.heap.objs.size + 1) :: us).length = ps.length := (rr.length.symm).trans (F.len _ _ _ _ g)
  have run := F.run _ X.stack _ _ ⟨Value.ref (s.heap.objs.size + 1) :: us, []⟩ (Value.ref (s.heap.objs.size + 1) :: us) _ _ (E σ) (hr.make C us []) (J.env0.make C us [])
    (by have b := hb _ (Value.ref (s.heap.objs.size + 1) :: us) J.kIn (by simpa using n); simpa using b) rr g
  refine wpAny_call (make_map (f := f) I.kIn M.makes M.init (beq_iff_eq.mp M.fn) (codeAny_mono run ?_))
  rintro (e | fl) s' z
  · exact hx pins _ _ e s' J z
  · cases fl with
    | ret u =>
      obtain ⟨v, H', I3, rv, rfl, q3⟩ := J.after z
      exact ⟨rv, V.ref (s.heap.objs.size + 1), H', I3, rfl, q3⟩
    | next => exact z.elim
    | brk => exact z.elim
    | cont => exact z.elim
theorem pe_makeX (M : Mk X.K C f) (F : FnOk X.prog X.w X.K X.mg X.base CX k f fd ps sp) (hr : Room (k + 1) X.A) (hg : Gl X x) (hm : X.mg x = some (.ref C)) (hb : Binds X.K fd ps []) (hx : ∀ σ, PassesAt CX X σ (E σ))
    (ha : PA X (e :: es) t) (hdb : (x == ("__debug__" : Str)) = false := by decide)
    (he : starEach (e :: es) X.env = (false, eval e X.env) :: starEach es X.env := by rfl) (hpl : (backTo pos (starEach es X.env)).any (·.1) = false := by rfl) :
    PE X (.Call (.Name x p) (e :: es) [] pos) (tMakeS C sp E t) := by
  constructor
  intro pins s σ H Q I h
  refine wpAny_Call_Name_kw (ld_glob I hg hm ?_ hdb)
  refine PySem.W.callWith_K (h₀ := X.base) I.ok.mod.kin M.kp (thn (ha.run pos pins s σ H _ I h) ?_) he hpl
  rintro us s1 ⟨vs, H1, I1, r, q⟩
  exact ⟨I1.kIn, make_runX M F hr hb (hx σ) I1 r q⟩
end
/-! ### tuple(xs) -/
@[irreducible] def rTo (K : PySem.W.Frag) : List V → Hp → VK → Prop := fun vs H Q => ∃ p xs, vs = [.ref p] ∧ SqL K H p xs ∧ ∀ l, H l = none → Q (.ref l) (upd H l (.tup xs))
theorem call_to {X : Cx} : CallR X (.type "tuple") (rTo X.K) := fun pins s σ H xs us Q I r h => by
  unfold rTo at h
  obtain ⟨p, ys, rfl, hs, q⟩ := h
  exact call_tuple_of pins s σ H _ us Q I r ⟨p, ys, rfl, .inl ⟨hs, q⟩⟩
theorem to_go {K : PySem.W.Frag} {H : Hp} {p : Addr} {xs : List V} {Q : VK} (h : SqL K H p xs) (q : ∀ l, H l = none → Q (.ref l) (upd H l (.tup xs))) : rTo K [.ref p] H Q := by
  unfold rTo
  exact ⟨p, xs, rfl, h, q⟩
section
variable {X : Cx} {CX : CXT} {k : Nat} {C f : Addr} {fd : FuncData} {ps : List Str} {sp : Sp} {E : L2.St → XK} {x : Str} {p pos : Pos}
/-- C(): no arguments -/
theorem pe_makeX0 (M : Mk X.K C f) (F : FnOk X.prog X.w X.K X.mg X.base CX k f fd ps sp) (hr : Room (k + 1) X.A) (hg : Gl X x) (hm : X.mg x = some (.ref C)) (hb : Binds X.K fd ps []) (hx : ∀ σ, PassesAt CX X σ (E σ))
    (hdb : (x == ("__debug__" : Str)) = false := by decide) :
    PE X (.Call (.Name x p) [] [] pos) (tMakeS C sp E tNil) := by
  constructor
  intro pins s σ H Q I h
  refine wpAny_Call_Name_kw (ld_glob I hg hm ?_ hdb)
  exact PySem.W.callWith_K0 I.kIn M.kp (make_runX (us := []) (vs := []) M F hr hb (hx σ) I .nil h)
end
/-! ### fields -/
section
variable {K : PySem.W.Frag} {H : Hp} {a C dx : Addr} {fs : List (Str × V)} {f : Str} {v : V}
theorem fld_go {R : V → Prop} (e : H a = some (.ins C dx fs)) (c : Cls K C) (n : NoAttr K C f) (l : fs.lookup f = some v) (q : R v) : ∃ (a' C' dx' : Addr) (fs' : List (Str × V)) (v' : V), V.ref a = .ref a' ∧ H a' = some (.ins C' dx' fs') ∧ Cls K C' ∧ NoAttr K C' f ∧ fs'.lookup f = some v' ∧ R v' :=
  ⟨a, C, dx, fs, v, rfl, e, c, n, l, q⟩
theorem setf_go {R : Hp → Prop} (e : H a = some (.ins C dx fs)) (c : Cls K C) (n : NoAttr K C f) (l : fs.length < 1000) (q : R (upd H a (.ins C dx (putF f v fs)))) : ∃ (a' C' dx' : Addr) (fs' : List (Str × V)), V.ref a = .ref a' ∧ H a' = some (.ins C' dx' fs') ∧ Cls K C' ∧ NoAttr K C' f ∧ fs'.length < 1000 ∧ R (upd H a' (.ins C' dx' (putF f v fs'))) :=
  ⟨a, C, dx, fs, rfl, e, c, n, l, q⟩
end
end LB

set_option Elab.async false
set_option linter.all false
set_option maxRecDepth 100000
set_option maxHeartbeats 4000000
/-! dicts made in a def -/
namespace LB
open PySem PySem.Spec PyProof.Rows L2
section
variable {X : Cx}
theorem sw_dict {kx vx : Expr} {gs : List Comprehension} {scope : Scope} {pos py : Pos} {y : Str} {l : Nat} {env : Env} (hk : env.scope.kind = .function) (hy : env.scope.names.lookup y = some .local)
    (hl : (py.line == pos.line) = true) (ha : (scope.names.any fun (n, k) => n == y && (k == .local || k == .cell)) = false) : swapsWith (.DictComp kx vx gs scope pos) (some (.Name y py)) l env = pure true := by
  have ky : env.kindOf y = some .local := hy
  have hb : env.blockKind = .function := by
    unfold Env.blockKind
    rw [hk]; rfl
  unfold swapsWith
  simp only [hb, ky, ha, Expr.pos, hl]; rfl
/-- name = {k: v for ..} on one line, the name a local -/
theorem ps_setDc {i : Nat} {y : Str} {py : Pos} {kx vx tg iter : Expr} {ifs : List Expr} {scope : Scope} {own : List (Str × Nat)} {pos spos : Pos} {wi : TI} {g : TG} {tt : TT} {tk tv : TE}
    (hc : X.calm = true) (hN : X.N.Nodup) (hy : X.N[i]? = some y) (hyl : X.env.scope.names.lookup y = some .local)
    (hsw : swapsWith (.DictComp kx vx [⟨tg, iter, ifs, 0⟩] scope pos) (some (.Name y py)) spos.line X.env = pure true) (hi : PI X tg iter wi) (ok : BlkOk X.N X.env.scope scope own)
    (hg : ∀ (s : Shared) (H : Hp) (C : Addr) (cl : List (Str × Addr)) (fp : List Addr), PG (X.blk s H scope (compEnvC scope cl C X.env) fp) tg g)
    (ht : ∀ (s : Shared) (H : Hp) (C : Addr) (cl : List (Str × Addr)) (fp : List Addr), PTs (X.blk s H scope (compEnvC scope cl C X.env) fp) ifs tt)
    (hk : ∀ (s : Shared) (H : Hp) (C : Addr) (cl : List (Str × Addr)) (fp : List Addr), PE (X.blk s H scope (compEnvC scope cl C X.env) fp) kx tk)
    (he : ∀ (s : Shared) (H : Hp) (C : Addr) (cl : List (Str × Addr)) (fp : List Addr), PE (X.blk s H scope (compEnvC scope cl C X.env) fp) vx tv)
    (hs : ∀ x, foldedSetIterable iter X.env x = pure x := by intro _; rfl) :
    PS X (.Assign [.Name y py] (.DictComp kx vx [⟨tg, iter, ifs, 0⟩] scope pos) spos) (tAsg (tDc wi g tt tk tv (own.map (·.2))) (gName i)) := by
  constructor
  intro pins s σ H D I h
  rw [exec_Assign_Name_used _ _ _ _ hsw]
  refine wpAny_bind (wpAny_standAt (wpAny_bind (wpAny_bind (thn (dc_core (use := some (assign (.Name y py) X.env)) (Qf := fun _ t => SP X pins D .next t) hc hN I hi ok hg ht hk he hs
    (show tDc wi g tt tk tv (own.map (·.2)) σ H (fun x H1 => gName i x σ H1 D.nx) from h) ?_) ?_))))
  · intro L C t m H' J q hn f
    refine wpAny_assign_Name (store_ok2 (v := V.ref L) J hN hy (.inl hyl) rfl ?_ (.inr hyl))
    rintro s2 I2 ⟨a, sb, ha⟩
    obtain ⟨f0, f1, f2, f3, f4, f5⟩ := f
    have ne : C ≠ a := ha.elim (fun z => by rw [z]; exact f1) fun z e => f4 y a z e.symm
    exact ⟨m, hn.sameBut sb ne, fun h3 sb3 => ⟨_, H', I2.turned (t' := s2.toks) (fun b o hb e => (sb3.2 b hb).trans e) f0 f1 f3 f4 f5, q⟩⟩
  · exact fun _ t hq => wpAny_pure (wpAny_pure hq)
end
/-! ### reading and writing a dict -/
section
variable {H : Hp} {d : Addr} {kvs : List (Key × V)} {z : Str} {i : Int} {v : V} {r : Option V} {Q : VK}
theorem dgetS {R : Addr → V → Prop} (e : H d = some (.dK kvs)) (l : valV kvs (Sum.inr z) = some v) (q : R d v) : ∃ a v', V.ref d = .ref a ∧ DGet H a (.str z) (some v') ∧ R a v' :=
  ⟨d, v, rfl, l ▸ DGet.k (k := Sum.inr z) e, q⟩
theorem dgetI {R : Addr → V → Prop} (e : H d = some (.dK kvs)) (l : valV kvs (Sum.inl i) = some v) (q : R d v) : ∃ a v', V.ref d = .ref a ∧ DGet H a (.int i) (some v') ∧ R a v' :=
  ⟨d, v, rfl, l ▸ DGet.k (k := Sum.inl i) e, q⟩
theorem dinS {R : Addr → Option V → Prop} (e : H d = some (.dK kvs)) (l : valV kvs (Sum.inr z) = r) (q : R d r) : ∃ a o, V.ref d = .ref a ∧ DGet H a (.str z) o ∧ R a o :=
  ⟨d, r, rfl, l ▸ DGet.k (k := Sum.inr z) e, q⟩
theorem dinI {R : Addr → Option V → Prop} (e : H d = some (.dK kvs)) (l : valV kvs (Sum.inl i) = r) (q : R d r) : ∃ a o, V.ref d = .ref a ∧ DGet H a (.int i) o ∧ R a o :=
  ⟨d, r, rfl, l ▸ DGet.k (k := Sum.inl i) e, q⟩
theorem dniS {R : Addr → Option V → Prop} (e : H d = some (.dK kvs)) (l : valV kvs (Sum.inr z) = r) (q : R d r) : ∃ a o, V.ref d = .ref a ∧ DGet H a (.str z) o ∧ R a o :=
  ⟨d, r, rfl, l ▸ DGet.k (k := Sum.inr z) e, q⟩
theorem dniI {R : Addr → Option V → Prop} (e : H d = some (.dK kvs)) (l : valV kvs (Sum.inl i) = r) (q : R d r) : ∃ a o, V.ref d = .ref a ∧ DGet H a (.int i) o ∧ R a o :=
  ⟨d, r, rfl, l ▸ DGet.k (k := Sum.inl i) e, q⟩
theorem dputS {R : Hp → Prop} (e : H d = some (.dK kvs)) (hl : kvs.length < sizeLine) (q : R (upd H d (.dK (putK kvs (Sum.inr z) v)))) : ∃ a H', V.ref d = .ref a ∧ DPut H a (.str z) v H' ∧ R H' :=
  ⟨d, _, rfl, DPut.k (k := Sum.inr z) e hl, q⟩
theorem dputI {R : Hp → Prop} (e : H d = some (.dK kvs)) (hl : kvs.length < sizeLine) (q : R (upd H d (.dK (putK kvs (Sum.inl i) v)))) : ∃ a H', V.ref d = .ref a ∧ DPut H a (.int i) v H' ∧ R H' :=
  ⟨d, _, rfl, DPut.k (k := Sum.inl i) e hl, q⟩
theorem dputS2 {R : Hp → Prop} (e : H d = some (.dK kvs)) (hl : kvs.length < sizeLine) (q : R (upd H d (.dK (putK kvs (Sum.inr z) v)))) : ∃ H', DPut H d (.str z) v H' ∧ R H' :=
  ⟨_, DPut.k (k := Sum.inr z) e hl, q⟩
theorem dputI2 {R : Hp → Prop} (e : H d = some (.dK kvs)) (hl : kvs.length < sizeLine) (q : R (upd H d (.dK (putK kvs (Sum.inl i) v)))) : ∃ H', DPut H d (.int i) v H' ∧ R H' :=
  ⟨_, DPut.k (k := Sum.inl i) e hl, q⟩
/-! ### len(d) -/
@[irreducible] def rLnD : List V → Hp → VK → Prop := fun xs H Q => ∃ a kvs, xs = [V.ref a] ∧ H a = some (.dK kvs) ∧ Q (.int kvs.length) H
theorem call_lnD {X : Cx} : CallR X (.builtin "len") rLnD := fun pins s σ H xs us Q I r h => call_lenD pins s σ H xs us Q I r (by unfold rLnD at h; exact h)
theorem lnD_go (e : H d = some (.dK kvs)) (q : Q (.int kvs.length) H) : rLnD [.ref d] H Q := by
  unfold rLnD
  exact ⟨d, kvs, rfl, e, q⟩
theorem tyx_d {K : PySem.W.Frag} (e : H d = some (.dK kvs)) : TyX K H (.ref d) (.type "dict") := .base (.dK e)
theorem tyx_lt {K : PySem.W.Frag} {xs : List V} (e : H d = some (.lst xs)) : TyX K H (.ref d) (.type "list") := .base (.lst e)
end
/-! ### more methods of lists -/
@[irreducible] def rIxm (K : PySem.W.Frag) : V → List V → Hp → VK → Prop := fun x vs H Q => rIndex K x vs H Q
theorem mt_ixm {X : Cx} : MtR X "list.index" (rIxm X.K) := fun pins s σ H x xs v us Q I rx rs h => mt_index pins s σ H x xs v us Q I rx rs (by unfold rIxm at h; exact h)
section
variable {K : PySem.W.Frag} {H : Hp} {a : Addr} {ys : List V} {y : V} {Q : VK}
/-- l.index(y): no two items alike -/
theorem ixm_go {j : Nat} (h : SqL K H a ys) (fy : flatV y = true) (fys : ys.all flatV = true) (hj : ys[j]? = some y) (hyy : eqV y y = true) (hno : ∀ (m : Nat) (z' : V), m < j → ys[m]? = some z' → eqV z' y = false) (q : Q (.int (j : Nat)) H) : rIxm K (.ref a) [y] H Q := by
  unfold rIxm
  exact ⟨a, ys, y, j, y, rfl, rfl, h, fy, fys, hj, hyy, hno, q⟩
end
@[irreducible] def rIns : V → List V → Hp → VK → Prop := fun x vs H Q => ∃ (l : Addr) (xs : List V) (i : Int) (y : V), x = .ref l ∧ vs = [.int i, y] ∧ H l = some (.lst xs) ∧ xs.length < sizeLine ∧ 0 ≤ i ∧ i < 2 ^ 63 ∧
    Q .non (upd H l (.lst (xs.take i.toNat ++ [y] ++ xs.drop i.toNat)))
theorem mt_ins {X : Cx} : MtR X "list.insert" rIns := fun pins s σ H x xs v us Q I rx rs h => mt_insert pins s σ H x xs v us Q I rx rs (by unfold rIns at h; exact h)
theorem ins_go {H : Hp} {l : Addr} {xs : List V} {y : V} {i : Nat} {Q : VK} (e : H l = some (.lst xs)) (hl : xs.length < sizeLine) (hi : i < 9223372036854775808) (q : Q .non (upd H l (.lst (xs.take i ++ [y] ++ xs.drop i)))) : rIns (.ref l) [.int (i : Int), y] H Q := by
  unfold rIns
  refine ⟨l, xs, (i : Int), y, rfl, rfl, e, hl, Int.natCast_nonneg _, by omega, ?_⟩
  rw [Int.toNat_natCast]
  exact q
@[irreducible] def rRmv : V → List V → Hp → VK → Prop := fun x vs H Q => rRemI x vs H Q
theorem mt_rmv {X : Cx} : MtR X "list.remove" rRmv := fun pins s σ H x xs v us Q I rx rs h => mt_remove pins s σ H x xs v us Q I rx rs (by unfold rRmv at h; exact h)
end LB

set_option Elab.async false
set_option linter.all false
set_option maxRecDepth 100000
set_option maxHeartbeats 4000000
/-! texts -/
namespace LB
open PySem PySem.Spec PyProof.Rows L2
/-! ### s[i], s[a:b], s + t, len(s), <=, in -/
@[irreducible] def rIxSs : R2 := fun x y H Q => rIxS x y H Q
theorem ix_ss {X : Cx} : IxR X rIxSs := fun value slice pins s σ H x y v u Q I rx ry h hs => ix_str value slice pins s σ H x y v u Q I rx ry (by unfold rIxSs at h; exact h) hs
@[irreducible] def rSlSs : V → Option Int → Option Int → Hp → VK → Prop := fun x lo hi H Q => rSlS x lo hi H Q
theorem sl_ss {X : Cx} : SlR X rSlSs := fun pins s σ H x v vl vu lo hi sl Q I rx hs pl pu h => sl_str pins s σ H x v vl vu lo hi sl Q I rx hs pl pu (by unfold rSlSs at h; exact h)
@[irreducible] def rAddS : R2 := fun x y H Q => ∃ i j, x = .str i ∧ y = .str j ∧ i.length + j.length ≤ sizeLine ∧ Q (.str (i ++ j)) H
theorem op_addS {X : Cx} : OpR X (binaryOp .Add) rAddS := fun pins s σ H x y v u Q I rx ry h => op_add_str pins s σ H x y v u Q I rx ry (by unfold rAddS at h; exact h)
@[irreducible] def rLenS : List V → Hp → VK → Prop := fun xs H Q => ∃ z, xs = [.str z] ∧ z.length ≤ sizeLine ∧ Q (.int z.length) H
theorem call_lenS {X : Cx} : CallR X (.builtin "len") rLenS := fun pins s σ H xs us Q I r h => call_len_str pins s σ H xs us Q I r (by unfold rLenS at h; exact h)
@[irreducible] def rLeS : R2 := fun x y H Q => ∃ i j, x = .str i ∧ y = .str j ∧ Q (.bl (!decide (j.cps.toList < i.cps.toList))) H
theorem op_leS {X : Cx} : OpR X (compareOp .LtE) rLeS := fun pins s σ H x y v u Q I rx ry h => op_le_str pins s σ H x y v u Q I rx ry (by unfold rLeS at h; exact h)
@[irreducible] def rInC (neg : Bool) : R2 := fun x y H Q => ∃ (c : Nat) (z : Str), x = .str ⟨#[c]⟩ ∧ y = .str z ∧ Q (.bl (if neg then !decide (c ∈ z.cps.toList) else decide (c ∈ z.cps.toList))) H
theorem op_inC {X : Cx} : OpR X (compareOp .In) (rInC false) := fun pins s σ H x y v u Q I rx ry h => op_in_sign pins s σ H x y v u Q I rx ry (by unfold rInC at h; exact h)
theorem op_niC {X : Cx} : OpR X (compareOp .NotIn) (rInC true) := fun pins s σ H x y v u Q I rx ry h => op_notIn_sign pins s σ H x y v u Q I rx ry (by unfold rInC at h; exact h)
section
variable {H : Hp} {Q : VK} {z y : Str} {i : Int} {c : Nat} {lo hi : Option Int}
theorem ixS_go (h : z.length ≤ sizeLine) (e : atI z.cps.toList i = some c) (q : Q (.str ⟨#[c]⟩) H) : rIxSs (.str z) (.int i) H Q := by
  unfold rIxSs
  exact ⟨z, i, c, rfl, rfl, h, e, q⟩
theorem slS_go (h : z.length ≤ sizeLine) (q : Q (.str (cutS z lo hi)) H) : rSlSs (.str z) lo hi H Q := by
  unfold rSlSs
  exact ⟨z, rfl, h, q⟩
theorem addS_go (h : z.length + y.length ≤ sizeLine) (q : Q (.str (z ++ y)) H) : rAddS (.str z) (.str y) H Q := by
  unfold rAddS
  exact ⟨z, y, rfl, rfl, h, q⟩
theorem lenS_go (h : z.length ≤ sizeLine) (q : Q (.int z.length) H) : rLenS [.str z] H Q := by
  unfold rLenS
  exact ⟨z, rfl, h, q⟩
theorem leS_go (q : Q (.bl (!decide (y.cps.toList < z.cps.toList))) H) : rLeS (.str z) (.str y) H Q := by
  unfold rLeS
  exact ⟨z, y, rfl, rfl, q⟩
theorem inC_go (q : Q (.bl (decide (c ∈ z.cps.toList))) H) : rInC false (.str ⟨#[c]⟩) (.str z) H Q := by
  unfold rInC
  exact ⟨c, z, rfl, rfl, q⟩
theorem niC_go (q : Q (.bl (!decide (c ∈ z.cps.toList))) H) : rInC true (.str ⟨#[c]⟩) (.str z) H Q := by
  unfold rInC
  exact ⟨c, z, rfl, rfl, q⟩
end
/-! ### for c in s -/
theorem for_txt {z : Str} {g : TG} {tb : TS} {D : Ends} {σ : L2.St} {H : Hp} (Pv : Nat → L2.St → Hp → Prop) (h0 : Pv 0 σ H)
    (hs : ∀ (i : Nat) (c : Nat) (σ : L2.St) (H : Hp), z.cps.toList[i]? = some c → Pv i σ H → g (.str ⟨#[c]⟩) σ H fun σ2 H2 => tb { D with nx := Pv (i + 1), ct := Pv (i + 1), bk := D.nx } σ2 H2) (hd : ∀ σ H, Pv z.cps.size σ H → D.nx σ H) :
    ∃ W : Nat → Nat → L2.St → Hp → Prop, (∃ m, W 0 m σ H) ∧ ∀ i m σ H, W i m σ H →
      ((Its z).stop i H ∧ D.nx σ H) ∨ ((Its z).go i H ∧ ∃ N : L2.St → Hp → Prop, (∀ σ' H', N σ' H' → ∃ m', m' < m ∧ W (i + 1) m' σ' H') ∧ ∀ x H', (Its z).yld i H x H' → g x σ H' fun σ2 H2 => tb { D with nx := N, ct := N, bk := D.nx } σ2 H2) := by
  refine ⟨fun i m σ H => m = z.cps.size - i ∧ i ≤ z.cps.size ∧ Pv i σ H, ⟨z.cps.size, by simp, Nat.zero_le _, h0⟩, ?_⟩
  rintro i m σ H ⟨rfl, hi, p⟩
  by_cases hlt : i < z.cps.size
  · refine .inr ⟨hlt, Pv (i + 1), fun σ' H' p' => ⟨z.cps.size - (i + 1), by omega, rfl, hlt, p'⟩, fun x H' y => ?_⟩
    obtain ⟨rfl, c, e, rfl⟩ := y
    exact hs i c σ H' (by rw [Array.getElem?_toList]; exact e) p
  · have e : i = z.cps.size := by omega
    subst e
    exact .inl ⟨Nat.le_refl _, hd σ H p⟩
/-! ### plain facts -/
theorem lt_one {a b : Nat} : (([a] : List Nat) < [b]) ↔ a < b := by
  constructor
  · intro h
    cases h with
    | rel h => exact h
    | cons h => cases h
  · intro h
    exact .rel h
theorem okS_of {z : Str} (h : ∀ c ∈ z.cps.toList, c < 1114112) : okS z = true := by
  unfold okS
  refine List.all_eq_true.mpr fun c hc => ?_
  rw [Nat.blt_eq]
  exact h c hc
theorem okS_mem {z : Str} (h : okS z = true) : ∀ c ∈ z.cps.toList, c < 1114112 := fun c hc => by
  unfold okS at h
  have := List.all_eq_true.mp h c hc
  rw [Nat.blt_eq] at this
  exact this
theorem okS_app {y z : Str} (h : okS y = true) (k : okS z = true) : okS (y ++ z) = true := okS_of fun c hc => by
  have e : (y ++ z).cps.toList = y.cps.toList ++ z.cps.toList := Array.toList_append
  rw [e, List.mem_append] at hc
  exact hc.elim (okS_mem h c) (okS_mem k c)
theorem okS_cut {z : Str} (h : okS z = true) (lo hi : Option Int) : okS (cutS z lo hi) = true := okS_of fun c hc => by
  have e : (cutS z lo hi).cps.toList = ((z.cps.toList.drop (HT.sIx z.length 0 lo)).take (HT.sIx z.length z.length hi - HT.sIx z.length 0 lo)) := rfl
  rw [e] at hc
  exact okS_mem h c (List.mem_of_mem_drop (List.mem_of_mem_take hc))
theorem okS_one {c : Nat} (h : c < 1114112) : okS ⟨#[c]⟩ = true := okS_of fun d hd => by
  have e : (⟨#[c]⟩ : Str).cps.toList = [c] := rfl
  rw [e, List.mem_singleton] at hd
  omega
theorem len_app {y z : Str} : (y ++ z).length = y.length + z.length := Array.size_append
theorem len_cut (z : Str) (lo hi : Option Int) : (cutS z lo hi).length ≤ z.length := by
  show (((z.cps.toList.drop (HT.sIx z.length 0 lo)).take (HT.sIx z.length z.length hi - HT.sIx z.length 0 lo)).toArray).size ≤ z.length
  rw [List.size_toArray, List.length_take, List.length_drop]
  have : z.cps.toList.length = z.length := rfl
  omega
theorem len_list (z : Str) : z.cps.toList.length = z.length := rfl
theorem atI_txt {z : Str} {i : Int} (j : Nat) (h : j < z.length) (e : i = j) : ∃ c, z.cps.toList[j]? = some c ∧ c ∈ z.cps.toList ∧ atI z.cps.toList i = some c := by
  subst e
  have h' : j < z.cps.toList.length := h
  exact ⟨_, List.getElem?_eq_getElem h', List.getElem_mem h', atI_nat (List.getElem?_eq_getElem h')⟩
/-! ### names -/
def lowC (c : Nat) : Bool := decide (97 ≤ c) && decide (c ≤ 122)
def digC (c : Nat) : Bool := decide (48 ≤ c) && decide (c ≤ 57)
def headC : List Nat → Bool
  | c :: _ => lowC c
  | [] => false
def nameB (z : Str) : Bool := (decide (1 ≤ z.length) && decide (z.length ≤ 12)) && (headC z.cps.toList && z.cps.toList.all fun c => lowC c || digC c)
theorem low_le (c : Nat) : (!decide ([c] < [97])) = decide (97 ≤ c) := by
  by_cases h : 97 ≤ c
  · rw [decide_eq_true h, decide_eq_false (by rw [lt_one]; omega)]; rfl
  · rw [decide_eq_false h, decide_eq_true (by rw [lt_one]; omega)]; rfl
theorem in_low (c : Nat) : decide (c ∈ ("abcdefghijklmnopqrstuvwxyz" : Str).cps.toList) = lowC c := by
  have e : ("abcdefghijklmnopqrstuvwxyz" : Str).cps.toList = [97, 98, 99, 100, 101, 102, 103, 104, 105, 106, 107, 108, 109, 110, 111, 112, 113, 114, 115, 116, 117, 118, 119, 120, 121, 122] := by decide +kernel
  rw [e]
  unfold lowC
  rw [Bool.eq_iff_iff, Bool.and_eq_true, decide_eq_true_iff, decide_eq_true_iff, decide_eq_true_iff]
  simp only [List.mem_cons, List.not_mem_nil, or_false]
  omega
theorem in_dig (c : Nat) : decide (c ∈ ("0123456789" : Str).cps.toList) = digC c := by
  have e : ("0123456789" : Str).cps.toList = [48, 49, 50, 51, 52, 53, 54, 55, 56, 57] := by decide +kernel
  rw [e]
  unfold digC
  rw [Bool.eq_iff_iff, Bool.and_eq_true, decide_eq_true_iff, decide_eq_true_iff, decide_eq_true_iff]
  simp only [List.mem_cons, List.not_mem_nil, or_false]
  omega
/-! ### sep.join(xs) -/
@[irreducible] def rJoinS (K : PySem.W.Frag) : V → List V → Hp → VK → Prop := fun x xs H Q => ∃ a p, ∃ ys : List Str, x = .str a ∧ xs = [.ref p] ∧ (SqL K H p (ys.map V.str) ∨ SqT K H p (ys.map V.str)) ∧ (ys.map (·.length)).sum + ys.length * a.length ≤ 16777216 ∧ Q (.str (Txt.join a ys)) H
theorem mt_joinS {X : Cx} : MtR X "str.join" (rJoinS X.K) := fun pins s σ H x xs v us Q I rx rs h => mt_join pins s σ H x xs v us Q I rx rs (by unfold rJoinS at h; exact h)
theorem joinS_go {K : PySem.W.Frag} {H : Hp} {Q : VK} {a : Str} {p : Addr} {ys : List Str} (h : SqL K H p (ys.map V.str)) (hz : (ys.map (·.length)).sum + ys.length * a.length ≤ 16777216) (q : Q (.str (Txt.join a ys)) H) : rJoinS K (.str a) [.ref p] H Q := by
  unfold rJoinS
  exact ⟨a, p, ys, rfl, rfl, .inl h, hz, q⟩
theorem nameB_iff {z : Str} : nameB z = true ↔ 1 ≤ z.length ∧ z.length ≤ 12 ∧ headC z.cps.toList = true ∧ ∀ c ∈ z.cps.toList, (lowC c || digC c) = true := by
  unfold nameB
  rw [Bool.and_eq_true, Bool.and_eq_true, Bool.and_eq_true, decide_eq_true_iff, decide_eq_true_iff, List.all_eq_true]
  exact ⟨fun h => ⟨h.1.1, h.1.2, h.2.1, h.2.2⟩, fun h => ⟨⟨h.1, h.2.1⟩, h.2.2.1, h.2.2.2⟩⟩
theorem nameB_no {z : Str} (h : ¬ (1 ≤ z.length ∧ z.length ≤ 12 ∧ headC z.cps.toList = true ∧ ∀ c ∈ z.cps.toList, (lowC c || digC c) = true)) : nameB z = false := by
  rw [Bool.eq_false_iff]
  exact fun k => h (nameB_iff.mp k)
theorem head_of {z : Str} {c : Nat} (e : z.cps.toList[0]? = some c) : headC z.cps.toList = lowC c := by
  cases h : z.cps.toList with
  | nil => rw [h] at e; cases e
  | cons d r =>
    rw [h] at e
    cases e
    rfl
theorem tl_join0 : ∀ ys : List Str, (Txt.join Str.empty ys).cps.toList = ys.flatMap (fun y => y.cps.toList)
  | [] => rfl
  | [x] => by rw [TL.join_eq]; exact (List.append_nil _).symm
  | x :: z :: r => by
    have ih := tl_join0 (z :: r)
    rw [TL.join_eq] at ih ⊢
    show ((x ++ Str.empty ++ Str.join Str.empty (z :: r)).cps).toList = _
    have e1 : (x ++ Str.empty ++ Str.join Str.empty (z :: r)).cps.toList = x.cps.toList ++ (Str.join Str.empty (z :: r)).cps.toList := by
      show ((x.cps ++ #[]) ++ (Str.join Str.empty (z :: r)).cps).toList = _
      rw [Array.append_empty, Array.toList_append]
    rw [e1, ih]
    rfl
theorem join_chars (ys : List Nat) : (Txt.join Str.empty (ys.map fun c => (⟨#[c]⟩ : Str))).cps.toList = ys := by
  rw [tl_join0]
  induction ys with
  | nil => rfl
  | cons a r ih =>
    rw [List.map_cons, List.flatMap_cons, ih]
    rfl
theorem join_len (ys : List Nat) : (Txt.join Str.empty (ys.map fun c => (⟨#[c]⟩ : Str))).length = ys.length := by
  have e := join_chars ys
  have : (Txt.join Str.empty (ys.map fun c => (⟨#[c]⟩ : Str))).cps.toList.length = ys.length := by rw [e]
  exact this
theorem join_ok {ys : List Nat} (h : ∀ c ∈ ys, c < 1114112) : okS (Txt.join Str.empty (ys.map fun c => (⟨#[c]⟩ : Str))) = true := okS_of fun c hc => by
  rw [join_chars] at hc
  exact h c hc
theorem sum_ones (ys : List Nat) : ((ys.map fun c => (⟨#[c]⟩ : Str)).map (·.length)).sum = ys.length := by
  induction ys with
  | nil => rfl
  | cons a r ih =>
    rw [List.map_cons, List.map_cons, List.sum_cons, ih]
    show 1 + r.length = r.length + 1
    omega
end LB

set_option Elab.async false
set_option linter.all false
set_option maxRecDepth 100000
set_option maxHeartbeats 4000000
/-! written dates -/
namespace LB
open PySem PySem.Spec PyProof.Rows L2
open PySem.NumText (AllDigits digitsVal)
@[irreducible] def rIntS : List V → Hp → VK → Prop := fun xs H Q => ∃ a n, xs = [.str a] ∧ PySem.intText? a = some n ∧ a.length ≤ 640 ∧ Q (.int n) H
theorem call_intS {X : Cx} : CallR X (.type "int") rIntS := fun pins s σ H xs us Q I r h => call_int_str pins s σ H xs us Q I r (by unfold rIntS at h; exact h)
@[irreducible] def rStrI : List V → Hp → VK → Prop := fun xs H Q => ∃ i : Int, xs = [.int i] ∧ i.natAbs.log2 < 1920 ∧ Q (.str (toString i)) H
theorem call_strI {X : Cx} : CallR X (.type "str") rStrI := fun pins s σ H xs us Q I r h => call_str_int pins s σ H xs us Q I r (by unfold rStrI at h; exact h)
/-- the number that digits write -/
def dv (z : Str) (lo hi : Option Int) : Int := ((digitsVal (cutS z lo hi).cps.toList : Nat) : Int)
section
variable {H : Hp} {Q : VK}
theorem intS_go {z : Str} {n : Int} (h : PySem.intText? z = some n) (hl : z.length ≤ 640) (q : Q (.int n) H) : rIntS [.str z] H Q := by
  unfold rIntS
  exact ⟨z, n, rfl, h, hl, q⟩
theorem strI_go {i : Int} (h : i.natAbs.log2 < 1920) (q : Q (.str (toString i)) H) : rStrI [.int i] H Q := by
  unfold rStrI
  exact ⟨i, rfl, h, q⟩
end
theorem intT {z : Str} {lo hi : Option Int} (h : ∀ c ∈ (cutS z lo hi).cps.toList, digC c = true) (hn : (cutS z lo hi).cps.toList ≠ []) (hl : z.length ≤ 600) : PySem.intText? (cutS z lo hi) = some (dv z lo hi) := by
  refine PySem.intText_digits (fun c hc => ?_) hn (Nat.le_trans (len_cut z lo hi) (by omega))
  have := h c hc
  unfold digC at this
  rw [Bool.and_eq_true, decide_eq_true_iff, decide_eq_true_iff] at this
  exact this
/-- ten signs, two of them strokes, the others digits -/
def writB (z : Str) : Bool := match z.cps.toList with
  | [a, b, c, d, s, e, f, t, g, h] => decide (s = 45) && (decide (t = 45) && ((digC a && (digC b && (digC c && digC d))) && ((digC e && digC f) && (digC g && digC h))))
  | _ => false
def dateB (z : Str) : Bool := writB z && decide ((2000 ≤ dv z none (some 4) ∧ dv z none (some 4) ≤ 2199 ∧ 1 ≤ dv z (some 5) (some 7) ∧ dv z (some 5) (some 7) ≤ 12) ∧ (1 ≤ dv z (some 8) none ∧ dv z (some 8) none ≤ mlen (dv z none (some 4)) (dv z (some 5) (some 7))))
theorem writ_ten {z : Str} (h : writB z = true) : ∃ a b c d e f g k : Nat, z.cps.toList = [a, b, c, d, 45, e, f, 45, g, k] ∧ digC a = true ∧ digC b = true ∧ digC c = true ∧ digC d = true ∧ digC e = true ∧ digC f = true ∧ digC g = true ∧ digC k = true := by
  unfold writB at h
  split at h
  · rename_i a b c d s e f t g k e0
    simp only [Bool.and_eq_true, decide_eq_true_eq] at h
    obtain ⟨rfl, rfl, ⟨h1, h2, h3, h4⟩, ⟨h5, h6⟩, h7, h8⟩ := h
    exact ⟨a, b, c, d, e, f, g, k, e0, h1, h2, h3, h4, h5, h6, h7, h8⟩
  · cases h
theorem list10 {l : List Nat} (h : l.length = 10) : ∃ a b c d s e f t g k, l = [a, b, c, d, s, e, f, t, g, k] := by
  match l, h with
  | [a, b, c, d, s, e, f, t, g, k], _ => exact ⟨a, b, c, d, s, e, f, t, g, k, rfl⟩
theorem writ_iff {z : Str} : writB z = true ↔ z.length = 10 ∧ ∀ i, i < 10 → ∀ c, z.cps.toList[i]? = some c → (if i = 4 ∨ i = 7 then c = 45 else digC c = true) := by
  constructor
  · intro h
    obtain ⟨a, b, c, d, e, f, g, k, e0, h1, h2, h3, h4, h5, h6, h7, h8⟩ := writ_ten h
    refine ⟨by rw [← len_list, e0]; rfl, fun i hi x hx => ?_⟩
    rw [e0] at hx
    match i, hi, hx with
    | 0, _, hx => cases hx; exact h1
    | 1, _, hx => cases hx; exact h2
    | 2, _, hx => cases hx; exact h3
    | 3, _, hx => cases hx; exact h4
    | 4, _, hx => cases hx; rfl
    | 5, _, hx => cases hx; exact h5
    | 6, _, hx => cases hx; exact h6
    | 7, _, hx => cases hx; rfl
    | 8, _, hx => cases hx; exact h7
    | 9, _, hx => cases hx; exact h8
  · rintro ⟨hl, hh⟩
    rw [← len_list] at hl
    obtain ⟨a, b, c, d, s, e, f, t, g, k, e0⟩ := list10 hl
    rw [e0] at hh
    have h0 : digC a = true := hh 0 (by decide) a rfl
    have h1 : digC b = true := hh 1 (by decide) b rfl
    have h2 : digC c = true := hh 2 (by decide) c rfl
    have h3 : digC d = true := hh 3 (by decide) d rfl
    have h4 : s = 45 := hh 4 (by decide) s rfl
    have h5 : digC e = true := hh 5 (by decide) e rfl
    have h6 : digC f = true := hh 6 (by decide) f rfl
    have h7 : t = 45 := hh 7 (by decide) t rfl
    have h8 : digC g = true := hh 8 (by decide) g rfl
    have h9 : digC k = true := hh 9 (by decide) k rfl
    unfold writB
    rw [e0]
    simp only [h0, h1, h2, h3, h4, h5, h6, h7, h8, h9, decide_true, Bool.and_self]
theorem cut_ten {z : Str} {a b c d s e f t g k : Nat} (e0 : z.cps.toList = [a, b, c, d, s, e, f, t, g, k]) : (cutS z none (some 4)).cps.toList = [a, b, c, d] ∧ (cutS z (some 5) (some 7)).cps.toList = [e, f] ∧ (cutS z (some 8) none).cps.toList = [g, k] := by
  have hl : z.length = 10 := by rw [← len_list, e0]; rfl
  refine ⟨?_, ?_, ?_⟩
  all_goals
    unfold cutS
    rw [e0, hl]
    rfl
theorem writ_ints {z : Str} (h : writB z = true) : PySem.intText? (cutS z none (some 4)) = some (dv z none (some 4)) ∧ PySem.intText? (cutS z (some 5) (some 7)) = some (dv z (some 5) (some 7)) ∧ PySem.intText? (cutS z (some 8) none) = some (dv z (some 8) none) := by
  obtain ⟨a, b, c, d, e, f, g, k, e0, h1, h2, h3, h4, h5, h6, h7, h8⟩ := writ_ten h
  obtain ⟨c1, c2, c3⟩ := cut_ten e0
  have hl : z.length ≤ 600 := by rw [← len_list, e0]; show 10 ≤ 600; decide
  refine ⟨intT ?_ (by rw [c1]; intro h; cases h) hl, intT ?_ (by rw [c2]; intro h; cases h) hl, intT ?_ (by rw [c3]; intro h; cases h) hl⟩
  · rw [c1]
    intro x hx
    simp only [List.mem_cons, List.not_mem_nil, or_false] at hx
    rcases hx with rfl | rfl | rfl | rfl <;> assumption
  · rw [c2]
    intro x hx
    simp only [List.mem_cons, List.not_mem_nil, or_false] at hx
    rcases hx with rfl | rfl <;> assumption
  · rw [c3]
    intro x hx
    simp only [List.mem_cons, List.not_mem_nil, or_false] at hx
    rcases hx with rfl | rfl <;> assumption
/-! ### numbers, padded -/
def padS (size : Nat) (t : Str) : Str := if t.length < size then "0" ++ t else t
def padR (n : Int) (size : Nat) : Nat → Str
  | 0 => toString n
  | k + 1 => padS size (padR n size k)
@[irreducible] def padT (n : Int) (size k : Nat) : Str := padR n size k
theorem padT_0 {n : Int} {size : Nat} : padT n size 0 = toString n := by unfold padT; rfl
theorem padT_y {n : Int} {size k : Nat} (h : (padT n size k).length < size) : padT n size (k + 1) = "0" ++ padT n size k := by
  unfold padT at *
  exact if_pos h
theorem padT_n {n : Int} {size k : Nat} (h : ¬ (padT n size k).length < size) : padT n size (k + 1) = padT n size k := by
  unfold padT at *
  exact if_neg h
theorem pad2 : ∀ n : Nat, n < 32 → (padT (n : Int) 2 2).cps.toList = [48 + n / 10, 48 + n % 10] := by decide +kernel
theorem pad4 : ∀ n : Nat, n < 200 → (padT ((2000 + n : Nat) : Int) 4 4).cps.toList = [50, 48 + n / 100, 48 + n / 10 % 10, 48 + n % 10] := by decide +kernel
theorem str_len (n : Nat) (h : n < 10000) : (Str.ofString (toString ((n : Nat) : Int))).length ≤ 4 := by
  have h2 := (Nat.length_repr_le_iff (n := n) (by decide : 0 < 4)).mpr h
  rw [← String.length_toList] at h2
  show (Str.ofString (Nat.repr n)).cps.size ≤ 4
  rw [Str.ofString_eq_toList]
  simpa using h2
theorem padT_len {n : Int} {size : Nat} (h0 : 0 ≤ n) (h1 : n ≤ 9999) : ∀ k, (padT n size k).length ≤ 4 + k
  | 0 => by
    obtain ⟨m, rfl⟩ : ∃ m : Nat, n = m := ⟨n.toNat, by omega⟩
    rw [padT_0]
    exact str_len m (by omega)
  | k + 1 => by
    have ih := padT_len (size := size) h0 h1 k
    by_cases h : (padT n size k).length < size
    · rw [padT_y h, len_app]
      show 1 + _ ≤ _
      omega
    · rw [padT_n h]
      omega
theorem tl_app (a b : Str) : (a ++ b).cps.toList = a.cps.toList ++ b.cps.toList := Array.toList_append
theorem wr_date {y m x : Int} (h : IsDate y m x) {z : Str} (e : z = padT y 4 4 ++ "-" ++ padT m 2 2 ++ "-" ++ padT x 2 2) : z.length = 10 ∧ okS z = true ∧ dateB z = true ∧ dv z none (some 4) = y ∧ dv z (some 5) (some 7) = m ∧ dv z (some 8) none = x := by
  have y0 := h.y0; have y1 := h.y1; have m0 := h.m0; have m1 := h.m1; have x0 := h.d0; have x1 := h.d1
  have hml := mlen_pos y m
  obtain ⟨a, ha, rfl⟩ : ∃ a : Nat, a < 200 ∧ y = ((2000 + a : Nat) : Int) := ⟨(y - 2000).toNat, by omega, by omega⟩
  obtain ⟨b, hb, rfl⟩ : ∃ b : Nat, b < 32 ∧ m = ((b : Nat) : Int) := ⟨m.toNat, by omega, by omega⟩
  obtain ⟨c, hc, rfl⟩ : ∃ c : Nat, c < 32 ∧ x = ((c : Nat) : Int) := ⟨x.toNat, by omega, by omega⟩
  have e1 : ("-" : Str).cps.toList = [45] := by decide +kernel
  have e0 : z.cps.toList = [50, 48 + a / 100, 48 + a / 10 % 10, 48 + a % 10, 45, 48 + b / 10, 48 + b % 10, 45, 48 + c / 10, 48 + c % 10] := by
    rw [e, tl_app, tl_app, tl_app, tl_app, pad4 a ha, pad2 b hb, pad2 c hc, e1]
    rfl
  have hl : z.length = 10 := by rw [← LB.len_list, e0]; rfl
  obtain ⟨k1, k2, k3⟩ := cut_ten e0
  have v1 : dv z none (some 4) = ((2000 + a : Nat) : Int) := by
    unfold dv
    rw [k1]
    simp only [digitsVal, List.foldl]
    omega
  have v2 : dv z (some 5) (some 7) = (b : Int) := by
    unfold dv
    rw [k2]
    simp only [digitsVal, List.foldl]
    omega
  have v3 : dv z (some 8) none = (c : Int) := by
    unfold dv
    rw [k3]
    simp only [digitsVal, List.foldl]
    omega
  have dg : ∀ n : Nat, n < 10 → digC (48 + n) = true := fun n hn => by
    unfold digC
    rw [Bool.and_eq_true, decide_eq_true_iff, decide_eq_true_iff]
    omega
  have hw : writB z = true := by
    have g0 : digC 50 = true := by decide
    have g1 := dg (a / 100) (by omega)
    have g2 := dg (a / 10 % 10) (by omega)
    have g3 := dg (a % 10) (by omega)
    have g4 := dg (b / 10) (by omega)
    have g5 := dg (b % 10) (by omega)
    have g6 := dg (c / 10) (by omega)
    have g7 := dg (c % 10) (by omega)
    unfold writB
    rw [e0]
    simp only [g0, g1, g2, g3, g4, g5, g6, g7, decide_true, Bool.and_self]
  refine ⟨hl, okS_of fun d hd => ?_, ?_, v1, v2, v3⟩
  · rw [e0] at hd
    simp only [List.mem_cons, List.not_mem_nil, or_false] at hd
    omega
  · unfold dateB
    rw [hw, v1, v2, v3, Bool.true_and, decide_eq_true_iff]
    exact ⟨⟨y0, y1, m0, m1⟩, x0, x1⟩
theorem cutV_map (ns : List Int) (lo hi : Option Int) : ∃ ms : List Int, cutV (ns.map V.int) lo hi = ms.map V.int ∧ ms.length ≤ ns.length := by
  refine ⟨(ns.drop (HT.sIx (ns.map V.int).length 0 lo)).take (HT.sIx (ns.map V.int).length (ns.map V.int).length hi - HT.sIx (ns.map V.int).length 0 lo), ?_, ?_⟩
  · unfold cutV
    rw [List.map_take, List.map_drop]
  · rw [List.length_take, List.length_drop]
    omega
/-- the signs of the drawn texts -/
def chL : List Nat := [48, 49, 50, 51, 52, 53, 54, 55, 56, 57, 45, 45, 32, 10, 47, 46, 58, 97, 98, 89, 90, 43, 95, 44]
def chC (c : Int) : Nat := chL.getD (c % 24).toNat 0
def chOf (c : Int) : Str := ⟨#[chC c]⟩
theorem chC_ok (c : Int) : chC c < 1114112 := by
  have : ∀ m : Nat, m < 24 → chL.getD m 0 < 1114112 := by decide
  exact this _ (by omega)
end LB

set_option Elab.async false
set_option linter.all false
set_option maxRecDepth 100000
set_option maxHeartbeats 4000000
/-! numbers in f-strings, with a width -/
namespace LB
open PySem PySem.Spec PyProof.Rows L2
structure NoDig (K : PySem.W.Frag) : Prop where
  ok : PySem.W.nsOkIn K cStatics = true
  no : PySem.W.nsIn K cStatics "sys.int_max_str_digits" = some none
def keyStr (e : DictEntry) : Bool := match e.key with
  | .str _ _ => true
  | _ => false
theorem nsok_of {K : PySem.W.Frag} {N : Addr} {c : Value} {d : Option Addr} {es : Array DictEntry} {n : Nat} {sl : Array (Option Value)} (h : K.lookup N = some ⟨c, d, .dict es n, sl⟩) (k : es.toList.all keyStr = true) : PySem.W.nsOkIn K N = true := by
  rw [Array.all_toList] at k
  unfold PySem.W.nsOkIn
  rw [h]
  exact k
theorem ndig {K : PySem.W.Frag} {h : Heap} (X : K.In h) (D : NoDig K) : h.NoDigits := by
  have e1 := D.ok
  unfold PySem.W.nsOkIn at e1
  split at e1
  · rename_i c d es n sl ho
    have hk : StrKeys es := fun e he => by
      obtain ⟨i, hi, rfl⟩ := Array.mem_iff_getElem.mp he
      have := Array.all_eq_true.mp e1 i hi
      cases hkey : es[i].key with
      | str x t => exact ⟨x, t, rfl⟩
      | _ => rw [hkey] at this; cases this
    have G : h.Ns cStatics (fun x => nsFind es x) := ⟨_, es, n, X _ _ ho, rfl, hk, fun _ => rfl⟩
    exact ⟨_, G, PySem.W.ns_none_of X G D.no⟩
  · cases e1
@[irreducible] def tFmtZ (spec : Str) (te : TE) : TE := fun σ H Q => te σ H fun x H1 => ∃ i : Int, x = .int i ∧ 0 ≤ i ∧ i < 10 ^ 10 ∧ Q (.str (intSpecTextOf spec i)) H1
theorem pe_fmtZ {X : Cx} {spec : Str} {e se : Expr} {te : TE} {pos : Pos} (D : NoDig X.K) (hok : intSpecOk spec = true) (hsz : spec.length ≤ sizeLine) (he : PE X e te) (hs : PE X se (tC (.str spec))) : PE X (.FormattedValue e (-1) (some se) pos) (tFmtZ spec te) := by
  refine ⟨fun pins s σ H Q I h => ?_⟩
  unfold tFmtZ at h
  refine wpAny_FormattedValue_spec (thn (he.run pins s σ H _ I h) fun v s1 hv => ?_)
  obtain ⟨x, H1, I1, r1, i, rfl, h0, h1, q⟩ := hv
  refine thn (hs.run pins s1 σ H1 (fun y H2 => y = .str spec ∧ H2 = H1) I1 ⟨rfl, rfl⟩) fun r s2 hr => ?_
  obtain ⟨y, H2, I2, r2, rfl, rfl⟩ := hr
  obtain ⟨t, rfl⟩ := r2
  obtain ⟨u, rfl⟩ := r1
  refine ⟨spec, t, rfl, formatField_int_specOf (ndig I2.kIn D) (lt_digitLimit_of_lt (by omega)) hok (fun W _ _ => ⟨.str (intSpecTextOf spec i), H2, I2.tok _, ⟨_, rfl⟩, q⟩) hsz⟩
theorem fmt_go {spec : Str} {te : TE} {σ : L2.St} {H : Hp} {Q : VK} (h : te σ H fun x H1 => ∃ i : Int, x = .int i ∧ 0 ≤ i ∧ i < 10 ^ 10 ∧ Q (.str (intSpecTextOf spec i)) H1) : tFmtZ spec te σ H Q := by
  unfold tFmtZ
  exact h
theorem fmt2 : ∀ n : Nat, n < 32 → (intSpecTextOf "02d" ((n : Nat) : Int)).cps.toList = [48 + n / 10, 48 + n % 10] := by decide +kernel
theorem fmt4 : ∀ n : Nat, n < 200 → (intSpecTextOf "04d" ((2000 + n : Nat) : Int)).cps.toList = [50, 48 + n / 100, 48 + n / 10 % 10, 48 + n % 10] := by decide +kernel
theorem str_extF {a b : Str} (h : a.cps.toList = b.cps.toList) : a = b := by
  cases a
  cases b
  congr 1
  exact Array.toList_inj.mp h
theorem fmt_pad4 {y : Int} (h0 : 2000 ≤ y) (h1 : y ≤ 2199) : intSpecTextOf "04d" y = padT y 4 4 := by
  obtain ⟨n, hn, rfl⟩ : ∃ n : Nat, n < 200 ∧ y = ((2000 + n : Nat) : Int) := ⟨(y - 2000).toNat, by omega, by omega⟩
  exact str_extF ((fmt4 n hn).trans (pad4 n hn).symm)
theorem fmt_pad2 {m : Int} (h0 : 0 ≤ m) (h1 : m ≤ 31) : intSpecTextOf "02d" m = padT m 2 2 := by
  obtain ⟨n, hn, rfl⟩ : ∃ n : Nat, n < 32 ∧ m = ((n : Nat) : Int) := ⟨m.toNat, by omega, by omega⟩
  exact str_extF ((fmt2 n hn).trans (pad2 n hn).symm)
end LB

set_option Elab.async false
set_option linter.all false
set_option maxRecDepth 100000
set_option maxHeartbeats 4000000
/-! keyword-only parameters; sorted of a tuple of texts -/
namespace LB
open PySem PySem.Spec PyProof.Rows L2
/-! ### what a keyword-only def holds -/
theorem kw_nil {K : PySem.W.Frag} {D : Addr} : ∀ q ∈ ([] : List (Str × V)), ∃ u, PySem.W.nsIn K D q.1 = some (some u) ∧ RelV q.2 u := fun _ h => by cases h
theorem kw_cons {K : PySem.W.Frag} {D : Addr} {x : Str × V} {l : List (Str × V)} {u : Value} (a : PySem.W.nsIn K D x.1 = some (some u)) (b : RelV x.2 u) (t : ∀ q ∈ l, ∃ u, PySem.W.nsIn K D q.1 = some (some u) ∧ RelV q.2 u) :
    ∀ q ∈ x :: l, ∃ u, PySem.W.nsIn K D q.1 = some (some u) ∧ RelV q.2 u := fun q h => by
  rcases List.mem_cons.mp h with e | h
  · rw [e]; exact ⟨u, a, b⟩
  · exact t q h
theorem fun_ofK {K : PySem.W.Frag} {x qual : Str} {pa : Arguments} {bd : List Stmt} {sc : Scope} {f D : Addr} {oc : Value} {od an : Option Addr} {osl : Array (Option Value)} {doc pm cdv ct : Value} {kws : List (Str × V)}
    (l : K.lookup f = some ⟨oc, od, .func (PySem.W.fnOf x qual pa bd sc .none (.ref D) doc pm an cdv ct), osl⟩) (c : PySem.W.codeIn K cdv qual = true) (k : PySem.W.keepIn K (.ref f) = true)
    (v : ∀ q ∈ kws, ∃ u, PySem.W.nsIn K D q.1 = some (some u) ∧ RelV q.2 u) :
    FunD K x qual pa bd sc [] kws f (PySem.W.fnOf x qual pa bd sc .none (.ref D) doc pm an cdv ct) := ⟨⟨oc, od, _, _, doc, pm, an, cdv, ct, osl, rfl, l, c, .inl ⟨rfl, rfl⟩, .inr ⟨D, rfl, v⟩⟩, k⟩
/-- items by their places, in one of two lists -/
def pick {α : Type} (sel : List (Nat ⊕ Nat)) (mv ws : List α) : List α := sel.filterMap fun
  | .inl i => mv[i]?
  | .inr j => ws[j]?
theorem vals_get {xs : List V} {us : List Value} (r : Vals xs us) (i : Nat) : (xs[i]? = none ∧ us[i]? = none) ∨ ∃ x u, xs[i]? = some x ∧ us[i]? = some u ∧ RelV x u := by
  cases e : xs[i]? with
  | none =>
    refine .inl ⟨rfl, ?_⟩
    rw [List.getElem?_eq_none_iff] at e ⊢
    rw [← r.length]
    exact e
  | some x =>
    obtain ⟨u, h1, h2⟩ := r.get e
    exact .inr ⟨x, u, rfl, h1, h2⟩
theorem pick_vals {mz zs : List V} {mv ws : List Value} (r1 : Vals mz mv) (r2 : Vals zs ws) : ∀ sel : List (Nat ⊕ Nat), Vals (pick sel mz zs) (pick sel mv ws)
  | [] => .nil
  | .inl i :: sel => by
    have ih := pick_vals r1 r2 sel
    rcases vals_get r1 i with ⟨h1, h2⟩ | ⟨x, u, h1, h2, h3⟩
    · simp only [pick, List.filterMap_cons, h1, h2]
      exact ih
    · simp only [pick, List.filterMap_cons, h1, h2]
      exact .cons h3 ih
  | .inr i :: sel => by
    have ih := pick_vals r1 r2 sel
    rcases vals_get r2 i with ⟨h1, h2⟩ | ⟨x, u, h1, h2, h3⟩
    · simp only [pick, List.filterMap_cons, h1, h2]
      exact ih
    · simp only [pick, List.filterMap_cons, h1, h2]
      exact .cons h3 ih
section
variable {M : Model} {h : Heap}
theorem looks_forIn {α β : Type} {f : α → β → Sem (ForInStep β)} : ∀ {xs : List α} {b0 : β} (g : Nat → β), g 0 = b0 → (∀ i x, xs[i]? = some x → PySem.W.Looks M h (f x (g i)) (.yield (g (i + 1)))) → PySem.W.Looks M h (forIn xs b0 f) (g xs.length)
  | [], b0, g, h0, _ => by subst h0; exact .of_pure (by simp)
  | x :: xs, b0, g, h0, hs => by
    subst h0
    rw [List.forIn_cons]
    exact (hs 0 x rfl).andThen (looks_forIn (xs := xs) (fun i => g (i + 1)) rfl fun i x e => hs (i + 1) x (by simpa using e))
/-- what the keyword-only names are given -/
def kwVal (kw : List (Str × Value)) (dfl : Str → Value) (n : Str) : Value := (kw.lookup n).getD (dfl n)
theorem lookup_app {α β : Type} [BEq α] (k : α) : ∀ (l m : List (α × β)), (l ++ m).lookup k = (l.lookup k).or (m.lookup k)
  | [], m => by simp [List.lookup]
  | (a, b) :: l, m => by
    simp only [List.cons_append, List.lookup]
    split
    · rfl
    · exact lookup_app k l m
theorem lookup_no {β : Type} {k : Str} : ∀ {l : List (Str × β)}, k ∉ l.map (·.1) → l.lookup k = none
  | [], _ => rfl
  | (a, b) :: l, h => by
    rw [List.map_cons, List.mem_cons, not_or] at h
    have e : (k == a) = false := by simpa using h.1
    simp only [List.lookup, e]
    exact lookup_no h.2
theorem bind_kwo {K : PySem.W.Frag} (X : K.In h) {fd : FuncData} {a : Str} {ko : List Str} {u : Value} {kw : List (Str × Value)} {D : Addr} {dfl : Str → Value} (h1 : fd.params.posonlyargs = []) (h2 : fd.params.args.map (·.arg) = [a]) (h3 : fd.params.vararg = none) (h4 : fd.params.kwarg = none) (h5 : fd.params.kwonlyargs.map (·.arg) = ko)
    (hd : fd.defaults = .none) (hk : fd.kwdefaults = .ref D) (hin : ∀ p ∈ kw, ko.contains p.1 = true) (hnd : (a :: kw.map (·.1)).Nodup) (hko : (a :: ko).Nodup) (hD : ∀ n ∈ ko, kw.lookup n = none → PySem.W.nsIn K D n = some (some (dfl n))) :
    PySem.W.Looks M h (PySem.bindArgs fd ⟨[u], kw⟩) ((a, u) :: ko.map fun n => (n, kwVal kw dfl n)) := by
  unfold PySem.bindArgs
  simp only [h1, h2, h3, h4, h5, hd, hk]
  refine PySem.W.Looks.andThen (looks_forIn (fun i => ((a, u) :: kw.take i, [])) (by simp) fun i x e => ?_) ?_
  · have hx : x ∈ kw := List.mem_of_getElem? e
    rw [if_pos (by rw [hin x hx, Bool.or_true])]
    have hnone : List.lookup x.1 ((a, u) :: kw.take i) = none := lookup_no (by
      rw [List.map_cons, List.map_take]
      intro hm
      rcases List.mem_cons.mp hm with q | q
      · exact (List.nodup_cons.mp hnd).1 (List.mem_map.mpr ⟨x, hx, q⟩)
      · have hi := (List.getElem?_eq_some_iff.mp e).1
        obtain ⟨j, hj, ej⟩ := List.getElem_of_mem q
        rw [List.length_take, List.length_map] at hj
        rw [List.getElem_take] at ej
        have n2 := (List.nodup_cons.mp hnd).2
        have := (List.getElem_inj (i := j) (j := i) (xs := kw.map (·.1)) n2 (h₀ := by rw [List.length_map]; omega) (h₁ := by rw [List.length_map]; omega)).mp (by rw [ej, List.getElem_map, (List.getElem?_eq_some_iff.mp e).2])
        omega)
    rw [if_neg (by rw [hnone]; decide)]
    refine .of_pure ?_
    rw [List.take_add_one, e]
    rfl
  rw [List.take_length]
  refine PySem.W.Looks.andThen (a := none) (.of_pure rfl) ?_
  rw [if_neg (by simp)]
  simp only [List.map_nil, List.nil_append, List.length_cons, List.length_nil, Nat.zero_add, Option.getD_none, List.drop_nil, Nat.sub_zero, List.zip_nil_right]
  have ea : (List.lookup a ((a, u) :: kw)) = some u := by simp [List.lookup]
  rw [if_neg (by simp [List.lookup])]
  refine PySem.W.Looks.andThen (a := (a, u) :: kw) (.of_pure (by simp)) ?_
  have na : ∀ n ∈ ko, n ≠ a := fun n hn e => (List.nodup_cons.mp hko).1 (e ▸ hn)
  have look : ∀ (n : Str) (m : List (Str × Value)), n ∈ ko → List.lookup n ((a, u) :: kw ++ m) = (kw.lookup n).or (m.lookup n) := fun n m hn => by
    rw [lookup_app]
    have e : (n == a) = false := by simpa using na n hn
    simp only [List.lookup, e]
  refine PySem.W.Looks.andThen (looks_forIn (fun i => ((a, u) :: kw ++ (ko.take i).filterMap (fun n => if (kw.lookup n).isNone = true then some (n, dfl n) else none), [])) (by simp) fun i n e => ?_) ?_
  · have hi := (List.getElem?_eq_some_iff.mp e).1
    have hn : n ∈ ko := List.mem_of_getElem? e
    have nt : n ∉ ko.take i := fun q => by
      obtain ⟨j, hj, ej⟩ := List.getElem_of_mem q
      rw [List.length_take] at hj
      rw [List.getElem_take] at ej
      have := (List.getElem_inj (i := j) (j := i) (xs := ko) (List.nodup_cons.mp hko).2 (h₀ := by omega) (h₁ := hi)).mp (by rw [ej, (List.getElem?_eq_some_iff.mp e).2])
      omega
    have ex : List.lookup n ((ko.take i).filterMap (fun n => if (kw.lookup n).isNone = true then some (n, dfl n) else none)) = none := lookup_no fun q => by
      obtain ⟨p, hp, ep⟩ := List.mem_map.mp q
      obtain ⟨m, hm, em⟩ := List.mem_filterMap.mp hp
      split at em
      · cases em
        exact nt (ep ▸ hm)
      · cases em
    have el : List.lookup n ((a, u) :: kw ++ (ko.take i).filterMap (fun n => if (kw.lookup n).isNone = true then some (n, dfl n) else none)) = kw.lookup n := by rw [look n _ hn, ex, Option.or_none]
    dsimp only
    rw [el, List.take_add_one, e, List.filterMap_append]
    cases hl : kw.lookup n with
    | none =>
      rw [if_pos (show (none : Option Value).isNone = true from rfl)]
      refine (PySem.W.looks_nsIn X (hD n hn hl)).andThen ?_
      refine .of_pure ?_
      simp [hl]
    | some v =>
      rw [if_neg (by simp)]
      refine .of_pure ?_
      simp [hl]
  rw [List.take_length]
  dsimp only
  rw [if_neg (by simp)]
  refine .of_pure ?_
  congr 1
  have fin : ∀ n ∈ ko, List.lookup n ((a, u) :: kw ++ ko.filterMap (fun n => if (kw.lookup n).isNone = true then some (n, dfl n) else none)) = some (kwVal kw dfl n) := fun n hn => by
    rw [look n _ hn]
    unfold kwVal
    cases hl : kw.lookup n with
    | some v => rfl
    | none =>
      rw [Option.none_or, Option.getD_none]
      have : ∀ l : List Str, n ∈ l → List.lookup n (l.filterMap (fun n => if (kw.lookup n).isNone = true then some (n, dfl n) else none)) = some (dfl n) := by
        intro l
        induction l with
        | nil => intro q; cases q
        | cons m l ih =>
          intro q
          rw [List.filterMap_cons]
          by_cases c : m = n
          · subst c
            simp [hl, List.lookup]
          · have q2 : n ∈ l := by
              rcases List.mem_cons.mp q with z | z
              · exact absurd z.symm c
              · exact z
            have e : (n == m) = false := by simpa using fun z : n = m => c z.symm
            split
            · exact ih q2
            · rename_i b hb
              split at hb
              · cases hb
                simp only [List.lookup, e]
                exact ih q2
              · cases hb
      exact this ko hn
  rw [List.singleton_append, List.filterMap_cons]
  have e0 : List.lookup a ((a, u) :: kw ++ ko.filterMap (fun n => if (kw.lookup n).isNone = true then some (n, dfl n) else none)) = some u := by
    rw [lookup_app, ea]
    rfl
  rw [e0]
  show (a, u) :: _ = _
  congr 1
  have gen : ∀ l : List Str, (∀ n ∈ l, n ∈ ko) → l.filterMap (fun n => Option.map (fun x => (n, x)) (List.lookup n ((a, u) :: kw ++ ko.filterMap (fun n => if (kw.lookup n).isNone = true then some (n, dfl n) else none)))) = l.map fun n => (n, kwVal kw dfl n) := by
    intro l
    induction l with
    | nil => intro _; rfl
    | cons m l ih =>
      intro hm
      rw [List.filterMap_cons, fin m (hm m (List.mem_cons_self ..)), List.map_cons]
      show _ :: _ = _
      rw [ih fun n hn => hm n (List.mem_cons_of_mem _ hn)]
  exact gen ko fun _ h => h
end
theorem lookup_zip {β : Type} {n : Str} : ∀ {ks : List Str} {ws : List β}, ks.length = ws.length → n ∈ ks → (ks.zip ws).lookup n = ws[ks.idxOf n]?
  | [], _, _, h => by cases h
  | k :: ks, [], h, _ => by cases h
  | k :: ks, w :: ws, h, hn => by
    rw [List.zip_cons_cons, List.idxOf_cons]
    simp only [List.lookup]
    by_cases c : n = k
    · subst c
      simp
    · have e1 : (n == k) = false := by simpa using c
      have e2 : (k == n) = false := by simpa using fun z : k = n => c z.symm
      rw [e1, e2]
      simp only [cond_false, Bool.cond_false]
      rw [List.getElem?_cons_succ]
      refine lookup_zip (by simpa using h) ?_
      rcases List.mem_cons.mp hn with z | z
      · exact absurd z c
      · exact z
def selOf (ks msn : List Str) (n : Str) : Nat ⊕ Nat := if n ∈ ks then .inr (ks.idxOf n) else .inl (msn.idxOf n)
def kwOk (a : Str) (ko ks msn : List Str) (sel : List (Nat ⊕ Nat)) : Bool := decide ((a :: ks).Nodup) && decide ((a :: ko).Nodup) && ks.all (fun k => ko.contains k) && decide (sel = ko.map (selOf ks msn)) && ko.all (fun n => decide (n ∈ ks) || decide (n ∈ msn))
theorem kb_kwo {K : PySem.W.Frag} {x qual : Str} {params : Arguments} {body : List Stmt} {scope : Scope} {kws : List (Str × V)} {f : Addr} {fd : FuncData} (F : FunD K x qual params body scope [] kws f fd) (a : Str) (ko ks msn : List Str) (ms : List (Str × V)) (sel : List (Nat ⊕ Nat))
    (h1 : params.posonlyargs = []) (h2 : params.args.map (·.arg) = [a]) (h3 : params.vararg = none) (h4 : params.kwarg = none) (h5 : params.kwonlyargs.map (·.arg) = ko) (hk : kws ≠ []) (hms : ∀ q ∈ ms, q ∈ kws) (hn : ms.map (·.1) = msn) (ok : kwOk a ko ks msn sel = true) :
    ∃ mv : List Value, KBn K fd (a :: ko) 1 ks (fun us ws => us ++ pick sel mv ws) (fun vs zs => vs ++ pick sel (ms.map (·.2)) zs) := by
  unfold kwOk at ok
  simp only [Bool.and_eq_true, decide_eq_true_iff, List.all_eq_true, Bool.or_eq_true] at ok
  obtain ⟨⟨⟨⟨o1, o2⟩, o3⟩, o4⟩, o5⟩ := ok
  obtain ⟨oc, od, dV, kV, doc, pm, an, cdv, ct, osl, rfl, lk, hcd, hD, hK⟩ := F.ex
  rcases hD with ⟨_, rfl⟩ | ⟨e, _⟩
  · rcases hK with e | ⟨D, rfl, hq⟩
    · exact absurd e hk
    · obtain ⟨mv, hl, rk, hks⟩ := kwd_vals (ms := ms) fun q hm => hq q (hms q hm)
      rw [hn] at hks
      have lm : msn.length = mv.length := by rw [← hn, List.length_map, hl]
      refine ⟨mv, ⟨fun s us ws X l1 l2 => BindsTo.of_looks fun M => ?_, fun r1 r2 => r1.append (pick_vals rk r2 sel)⟩⟩
      obtain ⟨u, rfl⟩ : ∃ u, us = [u] := by
        match us, l1 with
        | [u], _ => exact ⟨u, rfl⟩
      have zk : (ks.zip ws).map (·.1) = ks := List.map_fst_zip (by omega)
      have dv : ∀ n ∈ msn, ∃ v, mv[msn.idxOf n]? = some v ∧ PySem.W.nsIn K D n = some (some v) := fun n hm => by
        have hi := List.idxOf_lt_length_iff.mpr hm
        refine ⟨mv[msn.idxOf n]'(by omega), List.getElem?_eq_getElem _, ?_⟩
        refine hks (n, _) (List.mem_of_getElem? (i := msn.idxOf n) ?_)
        rw [List.getElem?_zip_eq_some]
        refine ⟨?_, List.getElem?_eq_getElem _⟩
        rw [List.getElem?_eq_getElem hi, List.getElem_idxOf]
      have lno : ∀ n, n ∉ ks → (ks.zip ws).lookup n = none := fun n h => lookup_no (by rw [zk]; exact h)
      have b := bind_kwo (M := M) X (fd := PySem.W.fnOf x qual params body scope .none (.ref D) doc pm an cdv ct) (u := u) (kw := ks.zip ws) (dfl := fun n => (mv[msn.idxOf n]?).getD .none) h1 h2 h3 h4 h5 rfl rfl (fun p hp => o3 _ (by rw [← zk]; exact List.mem_map.mpr ⟨p, hp, rfl⟩)) (by rw [zk]; exact o1) o2
        (fun n hn hl => by
          have nk : n ∉ ks := fun h => by
            rw [lookup_zip l2.symm h, List.getElem?_eq_getElem (by rw [l2]; exact List.idxOf_lt_length_iff.mpr h)] at hl
            cases hl
          rcases o5 n hn with z | z
          · exact absurd z nk
          · obtain ⟨v, e1, e2⟩ := dv n z
            rw [e2, e1]
            rfl)
      have e : (a, u) :: ko.map (fun n => (n, kwVal (ks.zip ws) (fun n => (mv[msn.idxOf n]?).getD .none) n)) = (a :: ko).zip ([u] ++ pick sel mv ws) := by
        rw [List.singleton_append, List.zip_cons_cons, o4]
        congr 1
        have gen : ∀ l : List Str, (∀ n ∈ l, n ∈ ko) → l.map (fun n => (n, kwVal (ks.zip ws) (fun n => (mv[msn.idxOf n]?).getD .none) n)) = l.zip (pick (l.map (selOf ks msn)) mv ws) := by
          intro l
          induction l with
          | nil => intro _; rfl
          | cons n l ih =>
            intro hm
            have ih' := ih fun m h => hm m (List.mem_cons_of_mem _ h)
            have key : (match selOf ks msn n with | .inl i => mv[i]? | .inr j => ws[j]?) = some (kwVal (ks.zip ws) (fun n => (mv[msn.idxOf n]?).getD .none) n) := by
              unfold selOf kwVal
              by_cases c : n ∈ ks
              · rw [if_pos c, lookup_zip l2.symm c]
                show ws[ks.idxOf n]? = _
                rw [List.getElem?_eq_getElem (by rw [l2]; exact List.idxOf_lt_length_iff.mpr c)]
                rfl
              · rw [if_neg c, lno n c]
                show mv[msn.idxOf n]? = _
                rcases o5 n (hm n (List.mem_cons_self ..)) with z | z
                · exact absurd z c
                · obtain ⟨v, e1, _⟩ := dv n z
                  simp only [Option.getD_none, e1, Option.getD_some]
            have pk : pick ((n :: l).map (selOf ks msn)) mv ws = kwVal (ks.zip ws) (fun n => (mv[msn.idxOf n]?).getD .none) n :: pick (l.map (selOf ks msn)) mv ws := by
              rw [List.map_cons]
              unfold pick
              rw [List.filterMap_cons_some]
              exact key
            rw [List.map_cons, pk, List.zip_cons_cons, ih']
        exact gen ko fun _ h => h
      rw [← e]
      exact b
  · exact absurd rfl e
/-! ### C(k = v, ..), which may raise -/
section
variable {X : Cx} {CX : CXT} {k n : Nat} {f C : Addr} {fd : FuncData} {ps ks : List Str} {sp : Sp} {E : L2.St → XK} {x : Str} {p pos : Pos} {kws : List Keyword} {tk : TA} {g : List Value → List Value → List Value} {gV : List V → List V → List V}
def tMakeKX (C : Addr) (m : Nat) (sp : Sp) (gV : List V → List V → List V) (E : L2.St → XK) (tk : TA) : TE := fun σ H Q => tk σ H fun zs H2 => zs.length = m ∧ ∀ x dx, H2 x = none → H2 dx = none → dx ≠ x →
  sp (gV [.ref x] zs) (upd (upd H2 dx (.own x)) x (.ins C dx [])) (fun v H3 => v = .non ∧ Q (.ref x) H3) (E σ)
theorem run_makeKX {pins : List (Addr × Obj)} {σ : L2.St} {H : Hp} {s : Shared} {Q : VK} {us ws : List Value} {vs zs : List V} (M : Mk X.K C f) (F : FnOk X.prog X.w X.K X.mg X.base CX k f fd ps sp) (hr : Room (k + 1) X.A) (hb : KBn X.K fd ps (n + 1) ks g gV) (hx : PassesAt CX X σ (E σ))
    (I : Inv X pins σ H s) (r : Vals vs us) (rz : Vals zs ws) (l1 : vs.length = n) (l2 : zs.length = ks.length)
    (h : ∀ x dx, H x = none → H dx = none → dx ≠ x → sp (gV (.ref x :: vs) zs) (upd (upd H dx (.own x)) x (.ins C dx [])) (fun v H2 => v = .non ∧ Q (.ref x) H2) (E σ)) :
    wpAny (model X.prog X.w) X.A (call (.ref C) us (ks.zip ws)) (EP X pins σ Q) X.xe s := by
  have hq := h (s.heap.objs.size + 1) s.heap.objs.size (I.hok.fresh (Nat.le_succ _)) (I.hok.fresh (Nat.le_refl _)) (Nat.ne_of_lt (Nat.lt_succ_self _))
  have I2 := Inv.made (C := C) I
  have r1 : Vals (V.ref (s.heap.objs.size + 1) :: vs) (Value.ref (s.heap.objs.size + 1) :: us) := .cons rfl r
  have r2 := hb.rel r1 rz
  have n1 : (Value.ref (s.heap.objs.size + 1) :: us).length = n + 1 := by
    rw [List.length_cons, ← r.length, l1]
  refine wpAny_call (make_map (f := f) I.kIn M.makes M.init (beq_iff_eq.mp M.fn) (codeAny_mono (F.run _ X.stack _ _ ⟨Value.ref (s.heap.objs.size + 1) :: us, ks.zip ws⟩ (g (Value.ref (s.heap.objs.size + 1) :: us) ws) _ _ (E σ) (hr.make C us (ks.zip ws))
    (I2.env0.make C us (ks.zip ws)) (hb.to _ (Value.ref (s.heap.objs.size + 1) :: us) ws I2.kIn n1 (rz.length.symm.trans l2)) r2 hq) fun r s' hq' => ?_))
  cases r with
  | error e => exact hx pins _ _ e s' I2 hq'
  | ok fl =>
    cases fl with
    | ret u =>
      obtain ⟨v, H', I3, rv, ev, q3⟩ := I2.after hq'
      subst ev
      exact ⟨rv, ⟨V.ref (s.heap.objs.size + 1), H', I3, rfl, q3⟩⟩
    | next => exact False.elim hq'
    | brk => exact False.elim hq'
    | cont => exact False.elim hq'
theorem pe_makeKX (M : Mk X.K C f) (F : FnOk X.prog X.w X.K X.mg X.base CX k f fd ps sp) (hr : Room (k + 1) X.A) (hg : Gl X x) (hm : X.mg x = some (.ref C)) (hb : KBn X.K fd ps 1 ks g gV) (hx : ∀ σ, PassesAt CX X σ (E σ)) (hkw : PK X kws tk)
    (hall : (backToKw pos (keywordEach kws X.env)).all (·.1.isSome) = true := by rfl) (hks : (backToKw pos (keywordEach kws X.env)).filterMap (·.1) = ks := by rfl) (hdb : (x == ("__debug__" : Str)) = false := by decide)
    (hpl : ((backTo pos (starEach [] X.env)).any (·.1) || (backToKw pos (keywordEach kws X.env)).any (·.1.isNone)) = false := by rfl) :
    PE X (.Call (.Name x p) [] kws pos) (tMakeKX C ks.length sp gV E tk) := by
  refine ⟨fun pins s σ H Q I h => ?_⟩
  refine wpAny_Call_Name_kw (ld_glob I hg hm ?_ hdb)
  refine PySem.W.callWith_KW0 (h₀ := X.base) I.ok.mod.kin M.kp hall ?_ hpl
  refine thn (hkw.run pos pins s σ H _ I h) fun ws s2 ⟨zs, H2, I2, rz, l2, q2⟩ => ⟨I2.kIn, ?_⟩
  rw [hks]
  exact run_makeKX (n := 0) (us := []) (vs := []) M F hr hb (hx σ) I2 .nil rz rfl l2 q2
end
/-! ### a store of a new field, what is known of the heap behind it -/
theorem stf_go {K : PySem.W.Frag} {H H0 : Hp} {a C dx : Addr} {fs fs' : List (Str × V)} {f : Str} {v : V} {R : Hp → Prop} (e : H a = some (.ins C dx fs)) (fr : ∀ b, b ≠ a → H b = H0 b) (c : Cls K C) (n : NoAttr K C f) (l : fs.length < 1000) (hp : putF f v fs = fs') (q : ∀ H', H' a = some (.ins C dx fs') → (∀ b, b ≠ a → H' b = H0 b) → R H') :
    ∃ (a' C' dx' : Addr) (fs' : List (Str × V)), V.ref a = .ref a' ∧ H a' = some (.ins C' dx' fs') ∧ Cls K C' ∧ NoAttr K C' f ∧ fs'.length < 1000 ∧ R (upd H a' (.ins C' dx' (putF f v fs'))) :=
  setf_go e c n l (q _ (by rw [hp]; exact upd_same) fun b h => (upd_ne h).trans (fr b h))
/-! ### sorted(t), t a tuple of texts -/
section
variable {prog : Program} {w : World} {A : Around} {E : Value → Shared → Prop} {s : Shared}
theorem collect_tup {l : Addr} {vs : List Value} {Q : List Value → Shared → Prop} (hl : s.heap.IsTuple l vs.toArray)
    (h : Q vs { s with heap := (s.heap.push (seqObj "list" #[] 0)).update s.heap.objs.size (Obj.mapSeq (· ++ vs.toArray)) }) (hsz : vs.length ≤ sizeLine) :
    wpAny (model prog w) A (collect (.ref l)) Q E s := by
  obtain ⟨o, ho, hc, n, hd⟩ := id hl
  unfold collect
  refine wpAny_bind (wpAny_runValue (codeAny_builtin entry_proto_collect' ?_))
  show wpAny _ _ (do again (.builtin "list.__iadd__" ⟨[← newList [], .ref l], []⟩)) _ _ s
  refine wpAny_bind (wpAny_newList (wpAny_pure ⟨Code.quiet_builtin _ (by decide +kernel), codeAny_builtin entry_list_iadd' ?_⟩))
  show wpAny _ _ (Builtin.List.listExtendWith (.ref s.heap.objs.size) (.ref l) (.ref s.heap.objs.size)) _ _ { s with heap := s.heap.push (seqObj "list" #[] 0) }
  unfold Builtin.List.listExtendWith
  have ho' : (s.heap.push (seqObj "list" #[] 0)).get? l = some o := Heap.get?_push_of_some _ ho
  refine wpAny_bind (wpAny_typeOf (T := "tuple") ⟨o, ho', hc⟩ ?_)
  have ht : (Value.type "tuple" == Value.type "tuple") = true := by rfl
  rw [if_pos (by rw [ht]; simp)]
  refine wpAny_bind (listItems_at ho' hd ?_)
  refine wpAny_bind (listItems_at (xs := #[]) (n := 0) (Heap.get?_push_size _ rfl) rfl ?_)
  rw [if_neg (by simp)]
  refine wpAny_bind (listUpdate_at (xs := #[]) (n := 0) (Heap.get?_push_size _ rfl) rfl ?_ (Nat.zero_le _) (by show (#[] ++ vs.toArray).size ≤ sizeLine + 1; simp only [Array.size_append, List.size_toArray, List.length_nil]; omega))
  refine wpAny_pure ?_
  show wpAny (model prog w) A (do
      let o ← load s.heap.objs.size
      match o.data with
      | .seq xs _ => pure xs.toList
      | _ => unsupported "internal:collect") Q E { s with heap := (s.heap.push (seqObj "list" #[] 0)).update s.heap.objs.size (Obj.mapSeq (· ++ vs.toArray)) }
  refine wpAny_bind (wpAny_load (get?_update_seq (Heap.get?_push_size _ rfl) _) ?_)
  show wpAny _ _ (pure ((#[] : Array Value) ++ vs.toArray).toList) Q E _
  rw [show ((#[] : Array Value) ++ vs.toArray).toList = vs by simp]
  exact wpAny_pure h
theorem sorted_strs_tup {l : Addr} {vs : List Value} {ss : List Str} {Q : Value → Shared → Prop} (hl : s.heap.IsTuple l vs.toArray) (hS : StrsAre vs ss) (h64 : vs.length < 64)
    (h : ∀ (out : Array Value) (ss' : List Str), StrsAre out.toList ss' → ss'.Perm ss → sortedS ss' = true → Q (.ref (s.heap.objs.size + 1)) { s with heap := sortedAll s.heap vs out }) :
    wpAny (model prog w) A (call (.builtin "sorted") [.ref l]) Q E s := by
  refine Calls.call_function_entry kind_sorted plain_sorted entry_sorted (args_sorted1 _) ?_
  unfold Builtin.«sorted»
  refine wpAny_bind (m := checkCount "sorted" 1 1 _) (wpAny_pure ?_)
  refine wpAny_bind (collect_tup hl ?_ (by rw [sizeLine_eq]; omega))
  refine wpAny_bind (wpAny_newList ?_ (by rw [sizeLine_eq]; omega))
  have hsz : ((s.heap.push (seqObj "list" #[] 0)).update s.heap.objs.size (Obj.mapSeq (· ++ vs.toArray))).objs.size = s.heap.objs.size + 1 := by
    rw [Heap.size_update, size_push']
  have hoL : (((s.heap.push (seqObj "list" #[] 0)).update s.heap.objs.size (Obj.mapSeq (· ++ vs.toArray))).push (seqObj "list" vs.toArray 0)).get? (s.heap.objs.size + 1) = some (seqObj "list" vs.toArray 0) := by
    rw [← hsz]; exact Heap.get?_push_size _ rfl
  show wpAny _ _ _ _ _ { s with heap := ((s.heap.push (seqObj "list" #[] 0)).update s.heap.objs.size (Obj.mapSeq (· ++ vs.toArray))).push (seqObj "list" vs.toArray 0) }
  rw [hsz]
  refine wpAny_bind (wpAny_holding (wpAny_call_entry slot_list_sort ⟨_, hoL, rfl⟩ entry_list_sort (list_sort_treeK strKind_oneLt hoL hS.keysOf (fun v₁ v₂ rest e => keyKind_strs (by rw [← e]; exact hS)) h64 fun st' a1 a2 => ⟨_, rfl, ?_⟩) (args_list_sort _)))
  obtain ⟨ss', h1, h2, h3⟩ := sorted_out_str hS a1 a2
  exact wpAny_pure ⟨_, rfl, h _ ss' h1 h2 h3⟩
end
@[irreducible] def rSrtTS (K : PySem.W.Frag) : List V → Hp → VK → Prop := fun vs H Q => ∃ (a : Addr) (xs : List Str), vs = [V.ref a] ∧ SqT K H a (xs.map V.str) ∧ xs.length < 64 ∧
  ∀ (ys : List Str) (p : Addr), ys.Perm xs → sortedS ys = true → H p = none → Q (.ref p) (upd H p (.lst (ys.map V.str)))
theorem call_srtTS {X : Cx} : CallR X (.builtin "sorted") (rSrtTS X.K) := by
  intro pins s σ H vs us Q I r h
  unfold rSrtTS at h
  obtain ⟨a, xs, rfl, hs, h64, q⟩ := h
  obtain ⟨its, rv, hl, _⟩ := I.tuple hs
  rw [Vals.ref1 r]
  have hlen0 := rv.length
  rw [List.length_map] at hlen0
  refine sorted_strs_tup hl rv.strs (by rw [← hlen0]; exact h64) fun out ys h1 h2 h3 => ?_
  obtain ⟨ep, he'⟩ := PyProof.Rows.sortedAll_at s.heap its out
  have hlen : (ys.map V.str).length ≤ sizeLine := by rw [List.length_map, h2.length_eq]; exact small64 h64
  exact ⟨.ref _, upd H (s.heap.objs.size + 1) (.lst (ys.map V.str)), I.laid (t' := s.toks) (fun _ _ => PyProof.Rows.sortedAll_old) (Nat.le_succ _) ⟨hlen, out.toList, ep, vals_of_strs h1, he'⟩, rfl, q ys _ h2 h3 (I.hok.fresh (Nat.le_succ _))⟩
theorem srtTS_go {K : PySem.W.Frag} {H : Hp} {a : Addr} {xs : List Str} {Q : VK} (hs : SqT K H a (xs.map V.str)) (h64 : xs.length < 64) (q : ∀ (ys : List Str) (p : Addr), ys.Perm xs → sortedS ys = true → H p = none → Q (.ref p) (upd H p (.lst (ys.map V.str)))) : rSrtTS K [.ref a] H Q := by
  unfold rSrtTS
  exact ⟨a, xs, rfl, hs, h64, q⟩
end LB

set_option Elab.async false
set_option linter.all false
set_option maxRecDepth 100000
set_option maxHeartbeats 4000000
/-! terms of a loan -/
namespace LB
open PySem PySem.Spec PyProof.Rows L2
structure TM where
  name : Str
  count : Int
  every : Int
  due : Int
  cal : Str
  rule : Str
  index : Str
  rate : Int
  lowest : Int
  highest : Int
  conv : Str
  mode : Str
  scheme : Str
  free : Int
  ofee : Int
  opart : Int
  pfee : Int
  lfee : Int
  grace : Int
  epart : Int
  emonths : Int
  ord : Addr
  pen : Int
def TM.vals (t : TM) : List V := [.str t.name, .int t.count, .int t.every, .int t.due, .str t.cal, .str t.rule, .str t.index, .int t.rate, .int t.lowest, .int t.highest, .str t.conv, .str t.mode, .str t.scheme, .int t.free, .int t.ofee, .int t.opart, .int t.pfee, .int t.lfee, .int t.grace, .int t.epart, .int t.emonths, .ref t.ord, .int t.pen]
def TM.flds (t : TM) : List (Str × V) := [("name", .str t.name), ("count", .int t.count), ("every", .int t.every), ("due_on", .int t.due), ("calendar", .str t.cal), ("rule", .str t.rule), ("index", .str t.index), ("rate", .int t.rate), ("lowest", .int t.lowest), ("highest", .int t.highest), ("convention", .str t.conv), ("mode", .str t.mode), ("scheme", .str t.scheme), ("free", .int t.free), ("opening_fee", .int t.ofee), ("opening_part", .int t.opart), ("period_fee", .int t.pfee), ("late_fee", .int t.lfee), ("grace", .int t.grace), ("early_part", .int t.epart), ("early_months", .int t.emonths), ("order", .ref t.ord), ("penalty", .int t.pen)]
inductive TErr where
  | bad (z : Str)
  | range (i : Int)
  | name (z : Str)
def isRuleT (z : Str) : Bool := inV (.str z) [.str "none", .str "following", .str "preceding", .str "modified"]
def isModeT (z : Str) : Bool := inV (.str z) [.str "down", .str "up", .str "near", .str "even"]
def isSchemeT (z : Str) : Bool := inV (.str z) [.str "annuity", .str "equal", .str "bullet"]
def isEveryT (i : Int) : Bool := inV (.int i) [.int 1, .int 2, .int 3, .int 4, .int 6, .int 12]
def usualO : List Str := ["fees", "interest", "principal"]
/-- between two bounds, or the error -/
def btw (v a b : Int) (r : Option TErr) : Option TErr := if v < a ∨ b < v then some (.range v) else r
def chargeErr (t : TM) (r : Option TErr) : Option TErr :=
  btw t.ofee 0 1000000000000 (btw t.opart 0 1000 (btw t.pfee 0 1000000000000 (btw t.lfee 0 1000000000000 (btw t.grace 0 90 (btw t.epart 0 1000 (btw t.emonths 0 480 r))))))
def togetherErr (t : TM) : Option TErr :=
  if t.count ≤ t.free then some (.range t.free) else if t.highest < t.lowest then some (.range t.lowest) else if 0 < t.lfee ∧ 28 * t.every ≤ t.grace then some (.range t.lfee) else none
def orE (c : Bool) (e : TErr) (r : Option TErr) : Option TErr := if c = true then r else some e
/-- the error that is due first -/
def termErr (t : TM) (os : List Str) : Option TErr :=
  orE (nameB t.name) (.bad t.name) (btw t.count 1 480 (orE (isEveryT t.every) (.range t.every) (btw t.due 1 31 (orE (t.cal == "" || nameB t.cal) (.bad t.cal) (orE (isRuleT t.rule) (.name t.rule) (orE (t.index == "" || nameB t.index) (.bad t.index)
    (btw t.rate 0 1000000 (btw t.lowest 0 1000000 (btw t.highest 0 1000000 (orE (decide (partsOf t.conv ≠ none)) (.name t.conv) (orE (isModeT t.mode) (.name t.mode) (orE (isSchemeT t.scheme) (.name t.scheme) (btw t.free 0 479 (chargeErr t
      (orE (decide (os.Perm usualO)) (.name "order") (btw t.pen 0 1000000 (togetherErr t)))))))))))))))))
theorem orE_t {c : Bool} {e : TErr} {r : Option TErr} (h : c = true) : orE c e r = r := by unfold orE; rw [if_pos h]
theorem orE_f {c : Bool} {e : TErr} {r : Option TErr} (h : c = false) : orE c e r = some e := by unfold orE; rw [if_neg (by rw [h]; decide)]
theorem btw_t {v a b : Int} {r : Option TErr} (h1 : a ≤ v) (h2 : v ≤ b) : btw v a b r = r := by unfold btw; rw [if_neg (by omega)]
theorem btw_f {v a b : Int} {r : Option TErr} (h : v < a ∨ b < v) : btw v a b r = some (.range v) := by unfold btw; rw [if_pos h]
theorem orE_none {c : Bool} {e : TErr} {r : Option TErr} (h : orE c e r = none) : c = true ∧ r = none := by
  cases c
  · rw [orE_f rfl] at h; cases h
  · exact ⟨rfl, by rwa [orE_t rfl] at h⟩
theorem btw_none {v a b : Int} {r : Option TErr} (h : btw v a b r = none) : (a ≤ v ∧ v ≤ b) ∧ r = none := by
  unfold btw at h
  split at h
  · cases h
  · exact ⟨by omega, h⟩
theorem btw_or {v a b : Int} {x r : Option TErr} : btw v a b (x.or r) = (btw v a b x).or r := by
  unfold btw
  split <;> rfl
theorem charge_or {t : TM} {r : Option TErr} : chargeErr t r = (chargeErr t none).or r := by
  unfold chargeErr
  rw [← btw_or, ← btw_or, ← btw_or, ← btw_or, ← btw_or, ← btw_or, ← btw_or, Option.none_or]
/-- the usual order is sorted, and the one sorted list of its words -/
theorem sorted_usual {ys : List Str} (p : ys.Perm usualO) (s : sortedS ys = true) : ys = usualO := by
  have hl : ys.length = 3 := p.length_eq
  obtain ⟨a, b, c, rfl⟩ : ∃ a b c, ys = [a, b, c] := by
    match ys, hl with
    | [a, b, c], _ => exact ⟨a, b, c, rfl⟩
  have ha := p.mem_iff.mp (List.mem_cons_self (a := a))
  have hb := p.mem_iff.mp (show b ∈ [a, b, c] by simp)
  have hc := p.mem_iff.mp (show c ∈ [a, b, c] by simp)
  have nd : [a, b, c].Nodup := p.nodup_iff.mpr (by decide +kernel)
  unfold usualO at *
  simp only [List.mem_cons, List.not_mem_nil, or_false] at ha hb hc
  rcases ha with rfl | rfl | rfl <;> rcases hb with rfl | rfl | rfl <;> rcases hc with rfl | rfl | rfl
  all_goals first
    | rfl
    | (revert nd; decide +kernel)
    | (revert s; decide +kernel)
theorem usual_iff {ys os : List Str} (p : ys.Perm os) (s : sortedS ys = true) : ys = usualO ↔ os.Perm usualO :=
  ⟨fun e => e ▸ p.symm, fun q => sorted_usual (p.trans q) s⟩
theorem Str.eq_of_map {xs ys : List Str} (h : xs.map V.str = ys.map V.str) : xs = ys := (List.map_inj_right (fun x y e => V.str.inj e)).mp h
theorem sharpS {xs : List Str} : (xs.map V.str).all sharpV = true := by
  rw [List.all_map]
  exact List.all_eq_true.mpr fun _ _ => rfl
theorem toT_go {K : PySem.W.Frag} {H : Hp} {p : Addr} {xs : List V} {Q : VK} (h : SqL K H p xs) (q : ∀ l H', H l = none → Same H H' → H' l = some (.tup xs) → Q (.ref l) H') : rTo K [.ref p] H Q :=
  to_go h fun l nl => q l _ nl (same_new (Same.refl H) nl) upd_same
/-- no error is due: then q -/
def NoErr (r : Option TErr) (q : Prop) : Prop := r = none → q
section
variable {c : Bool} {e : TErr} {r : Option TErr} {q : Prop}
theorem NoErr.t (h : NoErr (orE c e r) q) (k : c = true) : NoErr r q := by rw [orE_t k] at h; exact h
theorem NoErr.bt {v a b : Int} (h : NoErr (btw v a b r) q) (h1 : a ≤ v) (h2 : v ≤ b) : NoErr r q := by rw [btw_t h1 h2] at h; exact h
end
theorem every_sz {i : Int} (h : isEveryT i = true) : Sz 64 i := by
  unfold isEveryT inV at h
  simp [eqV] at h
  exact ⟨by omega⟩
theorem tup_but {K : PySem.W.Frag} {H H' : Hp} {c p C dx : Addr} {fs : List (Str × V)} {xs : List V} (keep : ∀ b o, b ≠ c → H b = some o → H' b = some o) (hc : H c = some (.ins C dx fs)) (h : SqT K H p xs) : SqT K H' p xs := by
  rcases h with h | h
  · rcases h with h | ⟨o, h⟩
    · exact .inl (.inl (keep _ _ (fun e => by rw [e, hc] at h; cases h) h))
    · exact .inl (.inr ⟨o, keep _ _ (fun e => by rw [e, hc] at h; cases h) h⟩)
  · exact .inr h
/-- terms of a loan at c -/
structure TermsAt (K : PySem.W.Frag) (C : Addr) (H : Hp) (c : Addr) (t : TM) (os : List Str) : Prop where
  ins : ∃ dx : Addr, H c = some (.ins C dx t.flds)
  ordAt : SqT K H t.ord (os.map V.str)
  good : termErr t os = none
theorem TermsAt.same {K : PySem.W.Frag} {C : Addr} {H H' : Hp} {c : Addr} {t : TM} {os : List Str} (s : Same H H') (h : TermsAt K C H c t os) : TermsAt K C H' c t os := by
  obtain ⟨⟨dx, i⟩, o, g⟩ := h
  exact ⟨⟨dx, s _ _ i⟩, same_tup s o, g⟩
theorem term_index {t : TM} {os : List Str} (h : termErr t os = none) : t.index.length ≤ 1000000 := by
  unfold termErr at h
  have h1 := (orE_none (orE_none (orE_none (btw_none (orE_none (btw_none (orE_none h).2).2).2).2).2).2).1
  rcases Bool.or_eq_true_iff.mp h1 with e | e
  · rw [eq_of_beq e]; decide +kernel
  · have := (nameB_iff.mp e).2.1; omega
theorem every_bd {i : Int} (h : isEveryT i = true) : 1 ≤ i ∧ i ≤ 12 := by
  unfold isEveryT inV at h
  simp [eqV] at h
  omega
theorem term_rest {t : TM} {os : List Str} (h : termErr t os = none) : 1 ≤ t.count ∧ t.count ≤ 480 ∧ (1 ≤ t.every ∧ t.every ≤ 12) ∧ 1 ≤ t.due ∧ t.due ≤ 31 ∧ t.cal.length ≤ 1000000 ∧ isRuleT t.rule = true := by
  unfold termErr at h
  have a1 := (orE_none h).2
  have a2 := btw_none a1
  have a3 := orE_none a2.2
  have a4 := btw_none a3.2
  have a5 := orE_none a4.2
  have a6 := orE_none a5.2
  refine ⟨a2.1.1, a2.1.2, every_bd a3.1, a4.1.1, a4.1.2, ?_, a6.1⟩
  rcases Bool.or_eq_true_iff.mp a5.1 with e | e
  · rw [eq_of_beq e]; decide +kernel
  · have := (nameB_iff.mp e).2.1; omega
theorem term_name {t : TM} {os : List Str} (h : termErr t os = none) : t.name.length ≤ 1000000 := by
  unfold termErr at h
  have := (nameB_iff.mp (orE_none h).1).2.1
  omega
theorem termErr_ok {t : TM} {os : List Str} (c1 : nameB t.name = true) (c2 : 1 ≤ t.count ∧ t.count ≤ 480) (c3 : isEveryT t.every = true) (c4 : 1 ≤ t.due ∧ t.due ≤ 31) (c5 : (t.cal == "" || nameB t.cal) = true) (c6 : isRuleT t.rule = true) (c7 : (t.index == "" || nameB t.index) = true)
    (c8 : 0 ≤ t.rate ∧ t.rate ≤ 1000000) (c9 : 0 ≤ t.lowest ∧ t.lowest ≤ 1000000) (c10 : 0 ≤ t.highest ∧ t.highest ≤ 1000000) (c11 : partsOf t.conv ≠ none) (c12 : isModeT t.mode = true) (c13 : isSchemeT t.scheme = true) (c14 : 0 ≤ t.free ∧ t.free ≤ 479)
    (c15 : chargeErr t none = none) (c16 : os.Perm usualO) (c17 : 0 ≤ t.pen ∧ t.pen ≤ 1000000) (c18 : togetherErr t = none) : termErr t os = none := by
  unfold termErr
  rw [orE_t c1, btw_t c2.1 c2.2, orE_t c3, btw_t c4.1 c4.2, orE_t c5, orE_t c6, orE_t c7, btw_t c8.1 c8.2, btw_t c9.1 c9.2, btw_t c10.1 c10.2, orE_t (decide_eq_true c11), orE_t c12, orE_t c13, btw_t c14.1 c14.2, charge_or, c15, Option.none_or, orE_t (decide_eq_true c16), btw_t c17.1 c17.2, c18]
end LB

set_option Elab.async false
set_option linter.all false
set_option maxRecDepth 100000
set_option maxHeartbeats 4000000
/-! comprehensions with a filter over any values -/
namespace LB
open PySem PySem.Spec PyProof.Rows L2
section
variable {K : PySem.W.Frag} {a D : Addr} {g : TG} {tt : TT} {te : TE} {vs : List Nat} {σ : L2.St} {H1 : Hp} {Qd : Hp → Prop}
/-- [x for x in xs if p x] -/
theorem lc_filV {xs : List V} (p : V → Bool) (hD : H1 D = none) (hl : SqL K H1 a xs) (hn : xs.length < sizeLine)
    (hs : ∀ x, x ∈ xs → ∀ H (N : Hp → Prop) acc, H D = some (.lst acc) → acc.length < sizeLine → (p x = true → N (upd H D (.lst (acc ++ [x])))) → (p x = false → N H) →
      g x (wipe σ vs) H fun σ2 H2 => wipe σ2 vs = wipe σ vs ∧ tt σ2 H2 fun b H3 => if b = true then te σ2 H3 fun y H4 => ∃ acc, H4 D = some (.lst acc) ∧ acc.length < sizeLine ∧ N (upd H4 D (.lst (acc ++ [y]))) else N H3)
    (hd : Qd (upd H1 D (.lst (xs.filter p)))) :
    ∃ W : Nat → Nat → Hp → Prop, (∃ m, W 0 m (upd H1 D (.lst []))) ∧ ∀ i m H, W i m H →
      ((Itl K a).stop i H ∧ Qd H) ∨ ((Itl K a).go i H ∧ ∃ Nx : Hp → Prop, (∀ H', Nx H' → ∃ m', m' < m ∧ W (i + 1) m' H') ∧ ∀ x H', (Itl K a).yld i H x H' → g x (wipe σ vs) H' fun σ2 H2 => wipe σ2 vs = wipe σ vs ∧ tt σ2 H2 fun b H3 =>
        if b = true then te σ2 H3 fun y H4 => ∃ acc, H4 D = some (.lst acc) ∧ acc.length < sizeLine ∧ Nx (upd H4 D (.lst (acc ++ [y]))) else Nx H3) := by
  refine lc_list (xs := xs) (fun i H => H = upd H1 D (.lst ((xs.take i).filter p))) rfl (fun i H _ e => e ▸ lst_upd hD hl) ?_ ?_
  · rintro i x H hx rfl
    have ht : xs.take (i + 1) = xs.take i ++ [x] := by rw [List.take_add_one, hx]; rfl
    refine hs x (List.mem_of_getElem? hx) _ _ _ upd_same ?_ (fun c => ?_) (fun c => ?_)
    · refine Nat.lt_of_le_of_lt (List.length_filter_le _ _) (Nat.lt_of_le_of_lt ?_ hn)
      rw [List.length_take]
      exact Nat.min_le_right _ _
    · rw [ht, List.filter_append, upd_upd]
      simp [c]
    · rw [ht, List.filter_append]
      simp [c]
  · rintro H rfl
    rw [List.take_length]
    exact hd
end
end LB

set_option Elab.async false
set_option linter.all false
set_option maxRecDepth 100000
set_option maxHeartbeats 4000000
/-! dicts with written keys: the keys a constant list of texts, the values a list beside it; the heap behind a put is a variable -/
namespace LB
open PySem PySem.Spec PyProof.Rows L2
theorem sameZ {H H' : Hp} (s : Same H H') {a : Addr} (h : H' a = none) : H a = none := by
  cases e : H a with
  | none => rfl
  | some o =>
    rw [s _ _ e] at h
    cases h
def zK : List Str → List V → List (Key × V)
  | k :: ks, v :: vs => (Sum.inr k, v) :: zK ks vs
  | _, _ => []
theorem zK_len : ∀ {ks : List Str} {vs : List V}, ks.length = vs.length → (zK ks vs).length = ks.length
  | [], [], _ => rfl
  | _ :: ks, _ :: vs, h => by
    show (zK ks vs).length + 1 = ks.length + 1
    rw [zK_len (by simpa using h)]
theorem zK_app : ∀ {ks : List Str} {vs : List V} {z : Str} {v : V}, ks.length = vs.length → zK (ks ++ [z]) (vs ++ [v]) = zK ks vs ++ [(Sum.inr z, v)]
  | [], [], _, _, _ => rfl
  | _ :: ks, _ :: vs, z, v, h => by
    show _ :: zK (ks ++ [z]) (vs ++ [v]) = _ :: (zK ks vs ++ _)
    rw [zK_app (by simpa using h)]
theorem zK_val : ∀ {ks : List Str} {vs : List V} {z : Str} {i : Nat} {v : V}, ks.Nodup → ks[i]? = some z → vs[i]? = some v → valV (zK ks vs) (Sum.inr z) = some v
  | [], _, _, _, _, _, h, _ => by cases h
  | k :: ks, [], z, i, v, _, _, h => by cases h
  | k :: ks, w :: vs, z, 0, v, _, h, hv => by
    cases h
    cases hv
    show valV ((Sum.inr k, _) :: zK ks vs) (Sum.inr k) = some _
    rw [valV_pos rfl]
  | k :: ks, w :: vs, z, i + 1, v, nd, h, hv => by
    have h1 := List.nodup_cons.mp nd
    have hm : z ∈ ks := List.mem_of_getElem? (show ks[i]? = some z from h)
    show valV ((Sum.inr k, w) :: zK ks vs) (Sum.inr z) = some v
    rw [valV_neg fun q => h1.1 (by rw [show k = z from Sum.inr.inj q]; exact hm)]
    exact zK_val h1.2 h hv
theorem zK_none : ∀ {ks : List Str} {vs : List V} {z : Str}, ks.length = vs.length → ks.contains z = false → (zK ks vs).any (fun kv => decide (kv.1 = Sum.inr z)) = false
  | [], [], _, _, _ => rfl
  | k :: ks, w :: vs, z, h, hc => by
    rw [List.contains_cons, Bool.or_eq_false_iff] at hc
    show (decide ((Sum.inr k : Key) = Sum.inr z) || (zK ks vs).any _) = false
    rw [zK_none (by simpa using h) hc.2, Bool.or_false, decide_eq_false]
    intro q
    have : k = z := Sum.inr.inj q
    subst this
    simp at hc
theorem zK_set : ∀ {ks : List Str} {vs : List V} {z : Str} {i : Nat} {v : V}, ks.length = vs.length → ks.Nodup → ks[i]? = some z → (zK ks vs).map (fun kv => if kv.1 = Sum.inr z then (kv.1, v) else kv) = zK ks (vs.set i v)
  | [], [], _, _, _, _, _, h => by cases h
  | k :: ks, w :: vs, z, 0, v, h, nd, hz => by
    cases hz
    have h1 := List.nodup_cons.mp nd
    show (if (Sum.inr k : Key) = Sum.inr k then ((Sum.inr k : Key), v) else _) :: (zK ks vs).map _ = (Sum.inr k, v) :: zK ks vs
    rw [if_pos rfl]
    congr 1
    have : ∀ {ks : List Str} {vs : List V}, k ∉ ks → (zK ks vs).map (fun kv => if kv.1 = Sum.inr k then (kv.1, v) else kv) = zK ks vs := by
      intro ks
      induction ks with
      | nil => intro vs _; cases vs <;> rfl
      | cons a l ih =>
        intro vs hk
        cases vs with
        | nil => rfl
        | cons b m =>
          show (if (Sum.inr a : Key) = Sum.inr k then ((Sum.inr a : Key), v) else (Sum.inr a, b)) :: (zK l m).map _ = (Sum.inr a, b) :: zK l m
          rw [if_neg fun q => hk (by rw [Sum.inr.inj q]; exact List.mem_cons_self), ih fun z => hk (List.mem_cons_of_mem _ z)]
    exact this h1.1
  | k :: ks, w :: vs, z, i + 1, v, h, nd, hz => by
    have h1 := List.nodup_cons.mp nd
    have hm : z ∈ ks := List.mem_of_getElem? (show ks[i]? = some z from hz)
    show (if (Sum.inr k : Key) = Sum.inr z then ((Sum.inr k : Key), v) else (Sum.inr k, w)) :: (zK ks vs).map _ = (Sum.inr k, w) :: zK ks (vs.set i v)
    rw [if_neg fun q => h1.1 (by rw [Sum.inr.inj q]; exact hm), zK_set (by simpa using h) h1.2 hz]
section
variable {H0 H : Hp} {p : Addr} {ks : List Str} {vs : List V} {z : Str} {v : V} {i : Nat}
/-- d[z] = v, z a new key -/
theorem dputZ {R : Hp → Prop} (s : Same H0 H) (np : H0 p = none) (e : H p = some (.dK (zK ks vs))) (hl : ks.length = vs.length) (hb : ks.length < 1000) (hn : ks.contains z = false)
    (q : ∀ H', Same H0 H' → (∀ b, b ≠ p → H' b = H b) → H' p = some (.dK (zK (ks ++ [z]) (vs ++ [v]))) → R H') : ∃ a H', V.ref p = .ref a ∧ DPut H a (.str z) v H' ∧ R H' := by
  refine dputS e (by rw [zK_len hl, sizeLine_eq]; omega) ?_
  have e2 : putK (zK ks vs) (Sum.inr z) v = zK (ks ++ [z]) (vs ++ [v]) := by
    unfold putK
    rw [if_neg (by rw [zK_none hl hn]; exact Bool.false_ne_true), zK_app hl]
  rw [e2]
  exact q _ (same_set s np) (fun _ hb => upd_ne hb) upd_same
/-- d[z] = v, z the key at place i -/
theorem dsetZ {R : Hp → Prop} (i : Nat) (s : Same H0 H) (np : H0 p = none) (e : H p = some (.dK (zK ks vs))) (hl : ks.length = vs.length) (hb : ks.length < 1000) (hn : (decide ks.Nodup && decide (ks[i]? = some z)) = true)
    (q : ∀ H', Same H0 H' → (∀ b, b ≠ p → H' b = H b) → H' p = some (.dK (zK ks (vs.set i v))) → R H') : ∃ a H', V.ref p = .ref a ∧ DPut H a (.str z) v H' ∧ R H' := by
  rw [Bool.and_eq_true, decide_eq_true_eq, decide_eq_true_eq] at hn
  refine dputS e (by rw [zK_len hl, sizeLine_eq]; omega) ?_
  have hi : i < ks.length := (List.getElem?_eq_some_iff.mp hn.2).1
  have e2 : putK (zK ks vs) (Sum.inr z) v = zK ks (vs.set i v) := by
    unfold putK
    rw [if_pos, zK_set hl hn.1 hn.2]
    rw [valV_any]
    rw [zK_val (v := vs[i]'(by omega)) hn.1 hn.2 (List.getElem?_eq_getElem (by omega))]
    rfl
  rw [e2]
  exact q _ (same_set s np) (fun _ hb => upd_ne hb) upd_same
/-- d[z], z the key at place i -/
theorem dgetZ {R : Addr → V → Prop} (i : Nat) (e : H p = some (.dK (zK ks vs))) (hn : (decide ks.Nodup && decide (ks[i]? = some z)) = true) (hv : vs[i]? = some v) (q : R p v) : ∃ a v', V.ref p = .ref a ∧ DGet H a (.str z) (some v') ∧ R a v' := by
  rw [Bool.and_eq_true, decide_eq_true_eq, decide_eq_true_eq] at hn
  exact dgetS e (zK_val hn.1 hn.2 hv) q
end
/-- the names of the terms -/
def keysL : List Str := ["name", "count", "every", "due_on", "calendar", "rule", "index", "rate", "lowest", "highest", "convention", "mode", "scheme", "free", "opening_fee", "opening_part", "period_fee", "late_fee", "grace", "early_part", "early_months", "order", "penalty"]
theorem keysL_nd : keysL.Nodup := by decide +kernel
section
variable {H0 H : Hp} {p : Addr} {n : Nat} {vs : List V} {z : Str} {v : V}
theorem keysL_len (h : n ≤ 23) : (keysL.take n).length = n := by
  rw [List.length_take]
  show min n 23 = n
  omega
theorem keysL_at {i : Nat} (hi : i < n) (hz : keysL[i]? = some z) : (keysL.take n)[i]? = some z := by
  rw [List.getElem?_take, if_pos hi]
  exact hz
theorem keysL_take : (keysL.take n).Nodup := keysL_nd.sublist (List.take_sublist _ _)
theorem dputL {R : Hp → Prop} (n : Nat) (s : Same H0 H) (np : H0 p = none) (e : H p = some (.dK (zK (keysL.take n) vs))) (hl : vs.length = n) (hn : n < 23) (hz : keysL[n]? = some z)
    (q : ∀ H', Same H0 H' → (∀ b, b ≠ p → H' b = H b) → H' p = some (.dK (zK (keysL.take (n + 1)) (vs ++ [v]))) → R H') : ∃ a H', V.ref p = .ref a ∧ DPut H a (.str z) v H' ∧ R H' := by
  have e1 : keysL.take (n + 1) = keysL.take n ++ [z] := by rw [List.take_add_one, hz]; rfl
  have hc : (keysL.take n).contains z = false := by
    have nd : (keysL.take (n + 1)).Nodup := keysL_take
    rw [e1, List.nodup_append] at nd
    rw [Bool.eq_false_iff]
    intro c
    exact nd.2.2 z (by simpa using c) z (List.mem_singleton.mpr rfl) rfl
  rw [e1] at q
  exact dputZ s np e (by rw [keysL_len (by omega), hl]) (by rw [keysL_len (by omega)]; omega) hc q
theorem dsetL {R : Hp → Prop} (i n : Nat) (s : Same H0 H) (np : H0 p = none) (e : H p = some (.dK (zK (keysL.take n) vs))) (hl : vs.length = n) (hn : n ≤ 23) (hi : i < n) (hz : keysL[i]? = some z)
    (q : ∀ H', Same H0 H' → (∀ b, b ≠ p → H' b = H b) → H' p = some (.dK (zK (keysL.take n) (vs.set i v))) → R H') : ∃ a H', V.ref p = .ref a ∧ DPut H a (.str z) v H' ∧ R H' :=
  dsetZ i s np e (by rw [keysL_len hn, hl]) (by rw [keysL_len hn]; omega) (by rw [Bool.and_eq_true, decide_eq_true_eq, decide_eq_true_eq]; exact ⟨keysL_take, keysL_at hi hz⟩) q
theorem dgetL {R : Addr → V → Prop} (i n : Nat) (e : H p = some (.dK (zK (keysL.take n) vs))) (hi : i < n) (hz : keysL[i]? = some z) (hv : vs[i]? = some v) (q : R p v) : ∃ a v', V.ref p = .ref a ∧ DGet H a (.str z) (some v') ∧ R a v' :=
  dgetZ i e (by rw [Bool.and_eq_true, decide_eq_true_eq, decide_eq_true_eq]; exact ⟨keysL_take, keysL_at hi hz⟩) hv q
end
/-- terms that are given in a dict -/
structure TermD (H : Hp) (p : Addr) (t : TM) (os : List Str) : Prop where
  at_ : H p = some (.dK (zK keysL t.vals))
  ord : H t.ord = some (.tup (os.map V.str))
  good : termErr t os = none
  cal : t.cal.length ≤ 1000000
  rule : t.rule.length ≤ 1000000
  conv : t.conv.length ≤ 1000000
  mode : t.mode.length ≤ 1000000
  scheme : t.scheme.length ≤ 1000000
  few : os.length ≤ 60
  oks : os.all okS = true
theorem TermD.same {H H' : Hp} {p : Addr} {t : TM} {os : List Str} (g : TermD H p t os) (s : Same H H') : TermD H' p t os :=
  ⟨s _ _ g.at_, s _ _ g.ord, g.good, g.cal, g.rule, g.conv, g.mode, g.scheme, g.few, g.oks⟩
theorem TermD.get {H : Hp} {p : Addr} {t : TM} {os : List Str} {z : Str} {v : V} {R : Addr → V → Prop} (g : TermD H p t os) (i : Nat) (hz : keysL[i]? = some z) (hv : t.vals[i]? = some v) (q : R p v) : ∃ a v', V.ref p = .ref a ∧ DGet H a (.str z) (some v') ∧ R a v' :=
  dgetZ i g.at_ (by rw [Bool.and_eq_true, decide_eq_true_eq, decide_eq_true_eq]; exact ⟨keysL_nd, hz⟩) hv q
end LB

set_option Elab.async false
set_option linter.all false
set_option maxRecDepth 100000
set_option maxHeartbeats 4000000
/-! terms compared -/
namespace LB
open PySem PySem.Spec PyProof.Rows L2
def TM.pre (t : TM) : List V := [.str t.name, .int t.count, .int t.every, .int t.due, .str t.cal, .str t.rule, .str t.index, .int t.rate, .int t.lowest, .int t.highest, .str t.conv, .str t.mode, .str t.scheme, .int t.free, .int t.ofee, .int t.opart, .int t.pfee, .int t.lfee, .int t.grace, .int t.epart, .int t.emonths]
theorem TM.vals_eq (t : TM) : t.vals = t.pre ++ [.ref t.ord, .int t.pen] := rfl
def termEq (t : TM) (os : List Str) (t' : TM) (os' : List Str) : Bool := eqL t.pre t'.pre && (eqL (os.map V.str) (os'.map V.str) && decide (t.pen = t'.pen))
theorem inW {x : Str} : ∀ {l : List Str}, inV (.str x) (l.map V.str) = true → x ∈ l
  | [], h => by cases h
  | a :: l, h => by
    have h : ((a == x) || inV (.str x) (l.map V.str)) = true := h
    rcases Bool.or_eq_true_iff.mp h with c | c
    · rw [eq_of_beq c]
      exact List.mem_cons_self
    · exact List.mem_cons_of_mem _ (inW c)
theorem okS_in {x : Str} {l : List Str} (h : x ∈ l) (k : l.all okS = true) : okS x = true := List.all_eq_true.mp k x h
theorem okS_name {z : Str} (h : nameB z = true) : okS z = true := by
  have h4 := (nameB_iff.mp h).2.2.2
  unfold okS
  rw [List.all_eq_true]
  intro c hc
  have := h4 c hc
  have hb : c < 128 := by
    unfold lowC digC at this
    simp only [Bool.or_eq_true, Bool.and_eq_true, decide_eq_true_eq] at this
    omega
  exact Nat.ble_eq.mpr (by omega)
theorem okS_opt {z : Str} (h : (z == "" || nameB z) = true) : okS z = true := by
  rcases Bool.or_eq_true_iff.mp h with e | e
  · rw [eq_of_beq e]; decide +kernel
  · exact okS_name e
/-- what holds of good terms -/
structure GoodT (t : TM) : Prop where
  name : nameB t.name = true
  count : 1 ≤ t.count ∧ t.count ≤ 480
  every : isEveryT t.every = true
  due : 1 ≤ t.due ∧ t.due ≤ 31
  cal : (t.cal == "" || nameB t.cal) = true
  rule : t.rule ∈ (["none", "following", "preceding", "modified"] : List Str)
  index : (t.index == "" || nameB t.index) = true
  rate : 0 ≤ t.rate ∧ t.rate ≤ 1000000
  lowest : 0 ≤ t.lowest ∧ t.lowest ≤ 1000000
  highest : 0 ≤ t.highest ∧ t.highest ≤ 1000000
  conv : t.conv ∈ (["actual/365", "actual/360", "30/360", "actual/actual"] : List Str)
  mode : t.mode ∈ (["down", "up", "near", "even"] : List Str)
  scheme : t.scheme ∈ (["annuity", "equal", "bullet"] : List Str)
  free : 0 ≤ t.free ∧ t.free ≤ 479
  ofee : 0 ≤ t.ofee ∧ t.ofee ≤ 1000000000000
  opart : 0 ≤ t.opart ∧ t.opart ≤ 1000
  pfee : 0 ≤ t.pfee ∧ t.pfee ≤ 1000000000000
  lfee : 0 ≤ t.lfee ∧ t.lfee ≤ 1000000000000
  grace : 0 ≤ t.grace ∧ t.grace ≤ 90
  epart : 0 ≤ t.epart ∧ t.epart ≤ 1000
  emonths : 0 ≤ t.emonths ∧ t.emonths ≤ 480
  pen : 0 ≤ t.pen ∧ t.pen ≤ 1000000
  free2 : t.free < t.count
  bounds : t.lowest ≤ t.highest
  late : 0 < t.lfee → t.grace < 28 * t.every
theorem btw_b {v a b : Int} {r : Option TErr} (h : btw v a b r = none) : (a ≤ v ∧ v ≤ b) ∧ r = none := by
  unfold btw at h
  split at h
  · cases h
  · exact ⟨by omega, h⟩
theorem good_of {t : TM} {os : List Str} (h : termErr t os = none) : GoodT t ∧ os.Perm usualO := by
  unfold termErr at h
  obtain ⟨c1, h⟩ := orE_none h
  obtain ⟨c2, h⟩ := btw_b h
  obtain ⟨c3, h⟩ := orE_none h
  obtain ⟨c4, h⟩ := btw_b h
  obtain ⟨c5, h⟩ := orE_none h
  obtain ⟨c6, h⟩ := orE_none h
  obtain ⟨c7, h⟩ := orE_none h
  obtain ⟨c8, h⟩ := btw_b h
  obtain ⟨c9, h⟩ := btw_b h
  obtain ⟨c10, h⟩ := btw_b h
  obtain ⟨c11, h⟩ := orE_none h
  obtain ⟨c12, h⟩ := orE_none h
  obtain ⟨c13, h⟩ := orE_none h
  obtain ⟨c14, h⟩ := btw_b h
  unfold chargeErr at h
  obtain ⟨c15, h⟩ := btw_b h
  obtain ⟨c16, h⟩ := btw_b h
  obtain ⟨c17, h⟩ := btw_b h
  obtain ⟨c18, h⟩ := btw_b h
  obtain ⟨c19, h⟩ := btw_b h
  obtain ⟨c20, h⟩ := btw_b h
  obtain ⟨c21, h⟩ := btw_b h
  obtain ⟨c22, h⟩ := orE_none h
  obtain ⟨c23, h⟩ := btw_b h
  unfold togetherErr at h
  split at h
  · cases h
  split at h
  · cases h
  split at h
  · cases h
  rename_i k1 k2 k3
  refine ⟨⟨c1, c2, c3, c4, c5, inW (l := ["none", "following", "preceding", "modified"]) c6, c7, c8, c9, c10, ?_, inW (l := ["down", "up", "near", "even"]) c12, inW (l := ["annuity", "equal", "bullet"]) c13, c14, c15, c16, c17, c18, c19, c20, c21, c23, by omega, by omega, fun z => by omega⟩, of_decide_eq_true c22⟩
  have c11 := of_decide_eq_true c11
  unfold partsOf at c11
  simp only [List.mem_cons, List.not_mem_nil, or_false]
  split at c11
  · exact .inl (by assumption)
  split at c11
  · exact .inr (.inl (by assumption))
  split at c11
  · exact .inr (.inr (.inl (by assumption)))
  split at c11
  · exact .inr (.inr (.inr (by assumption)))
  · exact absurd rfl c11
theorem GoodT.flat {t : TM} (g : GoodT t) : t.pre.all flatS = true := by
  have h1 := okS_name g.name
  have h2 := okS_opt g.cal
  have h3 := okS_in g.rule (by decide +kernel)
  have h4 := okS_opt g.index
  have h5 := okS_in g.conv (by decide +kernel)
  have h6 := okS_in g.mode (by decide +kernel)
  have h7 := okS_in g.scheme (by decide +kernel)
  simp only [TM.pre, List.all_cons, List.all_nil, flatS, h1, h2, h3, h4, h5, h6, h7, Bool.and_self]
theorem eqvAll_app : ∀ {a a' b b' : List PyData}, a.length = a'.length → PyData.eqvAll (a ++ b) (a' ++ b') = (PyData.eqvAll a a' && PyData.eqvAll b b')
  | [], [], _, _, _ => by simp only [List.nil_append, PyData.eqvAll, Bool.true_and]
  | x :: a, y :: a', b, b', h => by
    simp only [List.cons_append, PyData.eqvAll]
    rw [eqvAll_app (by simpa using h), Bool.and_assoc]
theorem dpAll_app {K : PySem.W.Frag} {H : Hp} : ∀ {a b : List V} {d e : List PyData}, DpAll K H a d → DpAll K H b e → DpAll K H (a ++ b) (d ++ e)
  | [], _, _, _, .nil, h => h
  | _ :: _, _, _, _, .cons x y, h => .cons x (dpAll_app y h)
/-- terms as data -/
def TM.data (t : TM) (os : List Str) : PyData := .tuple (t.pre.map pd ++ [.tuple ((os.map V.str).map pd), .int t.pen])
section
variable {K : PySem.W.Frag} {H : Hp} {a b : Addr} {t t' : TM} {os os' : List Str} {Q : VK}
theorem dp_terms (h : SqT K H a t.vals) (ho : SqT K H t.ord (os.map V.str)) (g : GoodT t) (fo : os.all okS = true) : Dp K H (.ref a) (t.data os) := by
  have f2 : (os.map V.str).all flatS = true := by rw [List.all_map]; exact fo
  exact .tup h (dpAll_app (dpAll_pd g.flat) (.cons (.tup ho (dpAll_pd f2)) (.cons (.int _) .nil)))
theorem canLay_app : ∀ {a b : List PyData}, PyData.canLayAll0 (a ++ b) = (PyData.canLayAll0 a && PyData.canLayAll0 b)
  | [], b => by simp only [List.nil_append, PyData.canLayAll0, Bool.true_and]
  | x :: a, b => by simp only [List.cons_append, PyData.canLayAll0, canLay_app, Bool.and_assoc]
theorem depth_app : ∀ {a b : List PyData}, PyData.depthAll (a ++ b) = max (PyData.depthAll a) (PyData.depthAll b)
  | [], b => by simp only [List.nil_append, PyData.depthAll, Nat.zero_max]
  | x :: a, b => by simp only [List.cons_append, PyData.depthAll, depth_app]; omega
theorem shaped_terms (g : GoodT t) (fo : os.all okS = true) : SeqAt.shaped (t.data os) = true := by
  have f2 : (os.map V.str).all flatS = true := by rw [List.all_map]; exact fo
  have h1 := layAll_pd g.flat
  have h2 := layAll_pd f2
  unfold SeqAt.shaped TM.data
  simp only [PyData.canLay0, PyData.depth, canLay_app, depth_app, PyData.canLayAll0, PyData.depthAll, h1.1, h1.2, h2.1, h2.2]
  decide
theorem eqv_terms (g : GoodT t) (g' : GoodT t') (fo : os.all okS = true) (fo' : os'.all okS = true) : PyData.eqv (t.data os) (t'.data os') = termEq t os t' os' := by
  have f2 : (os.map V.str).all flatS = true := by rw [List.all_map]; exact fo
  have f2' : (os'.map V.str).all flatS = true := by rw [List.all_map]; exact fo'
  unfold TM.data termEq
  rw [PyData.eqv, eqvAll_app (by rw [List.length_map, List.length_map]; rfl), eqvAll_pd g.flat g'.flat]
  simp only [PyData.eqvAll, PyData.eqv, eqvAll_pd f2 f2', Bool.and_true]
  rfl
theorem eqD_terms (h : SqT K H a t.vals) (h' : SqT K H b t'.vals) (ho : SqT K H t.ord (os.map V.str)) (ho' : SqT K H t'.ord (os'.map V.str)) (g : GoodT t) (g' : GoodT t') (fo : os.all okS = true) (fo' : os'.all okS = true)
    (q : Q (.bl (termEq t os t' os')) H) : rEqD K (.ref a) (.ref b) H Q := by
  refine ⟨_, _, dp_terms h ho g fo, dp_terms h' ho' g' fo', shaped_terms g fo, shaped_terms g' fo', ?_⟩
  rw [eqv_terms g g' fo fo']
  exact q
end
theorem kindsT {t : TM} (g : GoodT t) {i : Nat} {z : Str} {v : V} (hz : keysL[i]? = some z) (hv : t.vals[i]? = some v) : (∃ s, v = .str s ∧ okS s = true) ∨ (i = 21 ∧ z = "order" ∧ v = .ref t.ord) ∨ (∃ n, v = .int n ∧ z ≠ "order") := by
  have hi : i < 23 := (List.getElem?_eq_some_iff.mp hz).1
  have h : i = 0 ∨ i = 1 ∨ i = 2 ∨ i = 3 ∨ i = 4 ∨ i = 5 ∨ i = 6 ∨ i = 7 ∨ i = 8 ∨ i = 9 ∨ i = 10 ∨ i = 11 ∨ i = 12 ∨ i = 13 ∨ i = 14 ∨ i = 15 ∨ i = 16 ∨ i = 17 ∨ i = 18 ∨ i = 19 ∨ i = 20 ∨ i = 21 ∨ i = 22 := by omega
  rcases h with rfl | rfl | rfl | rfl | rfl | rfl | rfl | rfl | rfl | rfl | rfl | rfl | rfl | rfl | rfl | rfl | rfl | rfl | rfl | rfl | rfl | rfl | rfl
  · cases hv
    exact .inl ⟨_, rfl, okS_name g.name⟩
  · cases hv
    cases hz
    exact .inr (.inr ⟨_, rfl, by decide +kernel⟩)
  · cases hv
    cases hz
    exact .inr (.inr ⟨_, rfl, by decide +kernel⟩)
  · cases hv
    cases hz
    exact .inr (.inr ⟨_, rfl, by decide +kernel⟩)
  · cases hv
    exact .inl ⟨_, rfl, okS_opt g.cal⟩
  · cases hv
    exact .inl ⟨_, rfl, okS_in g.rule (by decide +kernel)⟩
  · cases hv
    exact .inl ⟨_, rfl, okS_opt g.index⟩
  · cases hv
    cases hz
    exact .inr (.inr ⟨_, rfl, by decide +kernel⟩)
  · cases hv
    cases hz
    exact .inr (.inr ⟨_, rfl, by decide +kernel⟩)
  · cases hv
    cases hz
    exact .inr (.inr ⟨_, rfl, by decide +kernel⟩)
  · cases hv
    exact .inl ⟨_, rfl, okS_in g.conv (by decide +kernel)⟩
  · cases hv
    exact .inl ⟨_, rfl, okS_in g.mode (by decide +kernel)⟩
  · cases hv
    exact .inl ⟨_, rfl, okS_in g.scheme (by decide +kernel)⟩
  · cases hv
    cases hz
    exact .inr (.inr ⟨_, rfl, by decide +kernel⟩)
  · cases hv
    cases hz
    exact .inr (.inr ⟨_, rfl, by decide +kernel⟩)
  · cases hv
    cases hz
    exact .inr (.inr ⟨_, rfl, by decide +kernel⟩)
  · cases hv
    cases hz
    exact .inr (.inr ⟨_, rfl, by decide +kernel⟩)
  · cases hv
    cases hz
    exact .inr (.inr ⟨_, rfl, by decide +kernel⟩)
  · cases hv
    cases hz
    exact .inr (.inr ⟨_, rfl, by decide +kernel⟩)
  · cases hv
    cases hz
    exact .inr (.inr ⟨_, rfl, by decide +kernel⟩)
  · cases hv
    cases hz
    exact .inr (.inr ⟨_, rfl, by decide +kernel⟩)
  · cases hv
    cases hz
    exact .inr (.inl ⟨rfl, rfl, rfl⟩)
  · cases hv
    cases hz
    exact .inr (.inr ⟨_, rfl, by decide +kernel⟩)
section
variable {K : PySem.W.Frag} {H : Hp} {Q : VK}
theorem neD_flat {x : V} (f : flatS x = true) (q : Q (.bl false) H) : rNeD K x x H Q := by
  have h1 := lay_pd f
  have sh : SeqAt.shaped (pd x) = true := by
    unfold SeqAt.shaped
    rw [h1.1, h1.2]
    rfl
  refine ⟨_, _, dp_pd f, dp_pd f, sh, sh, ?_⟩
  rw [eqv_pd f f]
  have := eqL_self (xs := [x]) (by simp [f])
  have e : eqV x x = true := by
    unfold eqL at this
    exact (Bool.and_eq_true_iff.mp this).1
  rw [e]
  exact q
end
theorem inW_of {x : Str} : ∀ {l : List Str}, x ∈ l → inV (.str x) (l.map V.str) = true
  | a :: l, h => by
    show ((a == x) || inV (.str x) (l.map V.str)) = true
    rcases List.mem_cons.mp h with c | c
    · rw [c, beq_self_eq_true, Bool.true_or]
    · rw [inW_of c, Bool.or_true]
theorem parts_in {z : Str} (h : z ∈ (["actual/365", "actual/360", "30/360", "actual/actual"] : List Str)) : partsOf z ≠ none := by
  simp only [List.mem_cons, List.not_mem_nil, or_false] at h
  rcases h with rfl | rfl | rfl | rfl <;> decide +kernel
theorem good_to {t : TM} {os : List Str} (g : GoodT t) (ho : os.Perm usualO) : termErr t os = none := by
  refine termErr_ok g.name g.count g.every g.due g.cal (inW_of (l := ["none", "following", "preceding", "modified"]) g.rule) g.index g.rate g.lowest g.highest (parts_in g.conv) (inW_of (l := ["down", "up", "near", "even"]) g.mode) (inW_of (l := ["annuity", "equal", "bullet"]) g.scheme) g.free ?_ ho g.pen ?_
  · unfold chargeErr
    rw [btw_t g.ofee.1 g.ofee.2, btw_t g.opart.1 g.opart.2, btw_t g.pfee.1 g.pfee.2, btw_t g.lfee.1 g.lfee.2, btw_t g.grace.1 g.grace.2, btw_t g.epart.1 g.epart.2, btw_t g.emonths.1 g.emonths.2]
  · unfold togetherErr
    have h1 := g.free2
    have h2 := g.bounds
    have h3 := g.late
    rw [if_neg (by omega), if_neg (by omega), if_neg (fun z => by have := h3 z.1; omega)]
theorem szB (c : Bool) : Sz 2 (if c = true then (1 : Int) else 0) := by
  cases c
  · exact ⟨by decide⟩
  · exact ⟨by decide⟩
theorem iteBb (c : Bool) : (if c = true then (1 : Int) else 0) = 0 ∨ (if c = true then (1 : Int) else 0) = 1 := by
  cases c
  · exact .inl rfl
  · exact .inr rfl
example {t : TM} (g : GoodT t) : GoodT { t with count := 5, free := 0 } := { g with count := by show 1 ≤ (5 : Int) ∧ (5 : Int) ≤ 480; omega, free := by show 0 ≤ (0 : Int) ∧ (0 : Int) ≤ 479; omega, free2 := by show (0 : Int) < 5; omega }
/-- the strings of good terms are short -/
structure ShortT (t : TM) : Prop where
  cal : t.cal.length ≤ 1000000
  rule : t.rule.length ≤ 1000000
  conv : t.conv.length ≤ 1000000
  mode : t.mode.length ≤ 1000000
  scheme : t.scheme.length ≤ 1000000
theorem len_in {x : Str} {l : List Str} (h : x ∈ l) (k : l.all (fun z => decide (z.length ≤ 1000000)) = true) : x.length ≤ 1000000 := of_decide_eq_true (List.all_eq_true.mp k x h)
theorem GoodT.short {t : TM} (g : GoodT t) : ShortT t := by
  refine ⟨?_, len_in g.rule (by decide +kernel), len_in g.conv (by decide +kernel), len_in g.mode (by decide +kernel), len_in g.scheme (by decide +kernel)⟩
  rcases Bool.or_eq_true_iff.mp g.cal with e | e
  · rw [eq_of_beq e]; decide +kernel
  · have := (nameB_iff.mp e).2.1
    omega
theorem ord_few {os : List Str} (h : os.Perm usualO) : os.length ≤ 60 ∧ os.all okS = true := by
  refine ⟨by rw [h.length_eq]; decide, ?_⟩
  rw [List.all_eq_true]
  intro x hx
  have : usualO.all okS = true := by decide +kernel
  exact List.all_eq_true.mp this x (h.mem_iff.mp hx)
theorem termD_of {H : Hp} {p : Addr} {t : TM} {os : List Str} (e : H p = some (.dK (zK keysL t.vals))) (o : H t.ord = some (.tup (os.map V.str))) (g : GoodT t) (ho : os.Perm usualO) : TermD H p t os :=
  ⟨e, o, good_to g ho, g.short.cal, g.short.rule, g.short.conv, g.short.mode, g.short.scheme, (ord_few ho).1, (ord_few ho).2⟩
theorem opt_len {z : Str} (h : (z == "" || nameB z) = true) : z.length ≤ 12 := by
  rcases Bool.or_eq_true_iff.mp h with e | e
  · rw [eq_of_beq e]; decide +kernel
  · exact (nameB_iff.mp e).2.1
theorem nmZ {z : Str} (h : (z == "" || nameB z) = true) (l : (z ++ "z" : Str).length ≤ 12) : nameB (z ++ "z") = true := by
  rcases Bool.or_eq_true_iff.mp h with e | e
  · rw [eq_of_beq e]; decide +kernel
  · obtain ⟨h1, h2, h3, h4⟩ := nameB_iff.mp e
    have ec : (z ++ "z" : Str).cps.toList = z.cps.toList ++ ("z" : Str).cps.toList := Array.toList_append
    have ez : ("z" : Str).cps.toList = [122] := by decide +kernel
    refine nameB_iff.mpr ⟨by rw [len_app]; omega, l, ?_, fun c hc => ?_⟩
    · rw [ec]
      cases hq : z.cps.toList with
      | nil =>
        rw [hq] at h3
        cases h3
      | cons a r =>
        rw [hq] at h3
        exact h3
    · rw [ec, ez] at hc
      rcases List.mem_append.mp hc with hc | hc
      · exact h4 c hc
      · rw [List.mem_singleton.mp hc]
        decide
theorem pm_ok {x b : Int} (h : 0 ≤ x ∧ x ≤ b) (hb : 1 ≤ b) : 0 ≤ x + 1 - 2 * (if decide (0 < x) = true then (1 : Int) else 0) ∧ x + 1 - 2 * (if decide (0 < x) = true then (1 : Int) else 0) ≤ b := by
  by_cases c : 0 < x
  · rw [decide_eq_true c, if_pos rfl]
    omega
  · rw [decide_eq_false c, if_neg Bool.false_ne_true]
    omega
theorem dec_int {a b : Int} : decide (V.int a = V.int b) = decide (a = b) := by
  by_cases c : a = b
  · rw [decide_eq_true c, decide_eq_true (by rw [c])]
  · rw [decide_eq_false c, decide_eq_false fun z => c (V.int.inj z)]
end LB

set_option Elab.async false
set_option linter.all false
set_option maxRecDepth 100000
set_option maxHeartbeats 4000000
/-! whole numbers as texts of digits, of any size -/
namespace LB
open PySem PySem.Spec PyProof.Rows L2
/-! ### divmod, rjust with a fill, lstrip of signs, xs[::-1] -/
@[irreducible] def rDvm : List V → Hp → VK → Prop := fun xs H Q => ∃ i j : Int, xs = [.int i, .int j] ∧ CDivP i j ∧ ∀ p, H p = none → Q (.ref p) (upd H p (.tup [.int (i / j), .int (i % j)]))
theorem call_dvm {X : Cx} : CallR X (.builtin "divmod") rDvm := fun pins s σ H xs us Q I r h => call_divmodW pins s σ H xs us Q I r (by unfold rDvm at h; exact h)
theorem dvm_go {H : Hp} {Q : VK} {i j : Int} {n : Nat} (z : Sz n i) (hn : n ≤ 4000) (hj : 0 < j) (q : ∀ p, H p = none → Q (.ref p) (upd H p (.tup [.int (i / j), .int (i % j)]))) : rDvm [.int i, .int j] H Q := by
  unfold rDvm
  exact ⟨i, j, rfl, divp_ok hj (Nat.le_trans (intBits_le z.1) (by omega)), q⟩
@[irreducible] def rRjF : V → List V → Hp → VK → Prop := fun x xs H Q => ∃ (a f : Str) (i : Int), x = .str a ∧ xs = [.int i, .str f] ∧ PadOk i = true ∧ f.length = 1 ∧ Q (.str (Txt.rjustF a i (f.cps.getD 0 0))) H
theorem mt_rjF {X : Cx} : MtR X "str.rjust" rRjF := by
  intro pins s σ H x xs v us Q I rx rs h
  unfold rRjF at h
  obtain ⟨a, f, i, rfl, rfl, hp, hf, q⟩ := h
  obtain ⟨t, rfl⟩ := rx
  cases rs with
  | cons r1 rs =>
    cases rs with
    | cons r2 rs =>
      cases rs
      obtain ⟨u, rfl⟩ := r1
      obtain ⟨z, rfl⟩ := r2
      exact rjust_fill hp hf fun t' k => ⟨.str (Txt.rjustF a i (f.cps.getD 0 0)), H, I.tok k, ⟨t', rfl⟩, q⟩
theorem rjF_go {H : Hp} {Q : VK} {a f : Str} {i : Int} (hp : PadOk i = true) (hf : f.length = 1) (q : Q (.str (Txt.rjustF a i (f.cps.getD 0 0))) H) : rRjF (.str a) [.int i, .str f] H Q := by
  unfold rRjF
  exact ⟨a, f, i, rfl, rfl, hp, hf, q⟩
@[irreducible] def rLsC : V → List V → Hp → VK → Prop := fun x xs H Q => ∃ a b, x = .str a ∧ xs = [.str b] ∧ a.length ≤ sizeLine ∧ Q (.str (Txt.lstripChars a b)) H
theorem mt_lsC {X : Cx} : MtR X "str.lstrip" rLsC := fun pins s σ H x xs v us Q I rx rs h => mt_lstripChars pins s σ H x xs v us Q I rx rs (by unfold rLsC at h; exact h)
theorem lsC_go {H : Hp} {Q : VK} {a b : Str} (hl : a.length ≤ sizeLine) (q : Q (.str (Txt.lstripChars a b)) H) : rLsC (.str a) [.str b] H Q := by
  unfold rLsC
  exact ⟨a, b, rfl, rfl, hl, q⟩
/-! ### digits -/
/-- w digits of n, the last ones -/
def dw : Nat → Nat → List Nat
  | 0, _ => []
  | w + 1, n => dw w (n / 10) ++ [48 + n % 10]
theorem dw_len : ∀ (w n : Nat), (dw w n).length = w
  | 0, _ => rfl
  | w + 1, n => by rw [dw, List.length_append, dw_len w]; rfl
theorem dw_zero : ∀ w : Nat, dw w 0 = List.replicate w 48
  | 0 => rfl
  | w + 1 => by
    show dw w (0 / 10) ++ [48 + 0 % 10] = _
    rw [show 0 / 10 = 0 from rfl, dw_zero w, List.replicate_succ']
theorem dw_add (a : Nat) : ∀ (b n : Nat), dw (a + b) n = dw a (n / 10 ^ b) ++ dw b n
  | 0, n => by rw [Nat.pow_zero, Nat.div_one, dw, List.append_nil]; rfl
  | b + 1, n => by
    show dw (a + b) (n / 10) ++ [48 + n % 10] = _
    rw [dw_add a b, dw, List.append_assoc, Nat.div_div_eq_div_mul, Nat.pow_succ, Nat.mul_comm]
theorem dw_mod : ∀ (w n : Nat), dw w (n % 10 ^ w) = dw w n
  | 0, _ => rfl
  | w + 1, n => by
    have e1 : n % 10 ^ (w + 1) / 10 = n / 10 % 10 ^ w := by
      rw [Nat.pow_succ, Nat.mul_comm, Nat.mod_mul_right_div_self]
    have e2 : n % 10 ^ (w + 1) % 10 = n % 10 := by
      rw [Nat.pow_succ, Nat.mul_comm, Nat.mod_mul_right_mod]
    rw [dw, dw, e1, e2, dw_mod w]
/-- the digits of n -/
def dg (n : Nat) : List Nat := (Nat.toDigits 10 n).map Char.toNat
theorem dg_small {n : Nat} (h : n < 10) : dg n = [48 + n] := by
  unfold dg
  rw [Nat.toDigits_of_lt_base h]
  revert n
  decide
theorem dg_big {n : Nat} (h : 10 ≤ n) : dg n = dg (n / 10) ++ [48 + n % 10] := by
  unfold dg
  rw [Nat.toDigits_of_base_le (by decide) h, List.map_append]
  congr 1
  have := Nat.mod_lt n (show 0 < 10 by decide)
  generalize n % 10 = k at this
  revert k
  decide
theorem dg_len {n w : Nat} (h : n < 10 ^ w) (hw : 0 < w) : (dg n).length ≤ w := by
  unfold dg
  rw [List.length_map]
  exact (Nat.length_toDigits_le_iff (by decide) hw).mpr h
theorem dg_pad : ∀ (w n : Nat), n < 10 ^ (w + 1) → List.replicate (w + 1 - (dg n).length) 48 ++ dg n = dw (w + 1) n
  | 0, n, h => by
    rw [dg_small (by omega), dw, dw, Nat.mod_eq_of_lt (show n < 10 by omega)]
    rfl
  | w + 1, n, h => by
    by_cases h1 : n < 10
    · rw [dg_small h1, dw, Nat.div_eq_of_lt h1, dw_zero, Nat.mod_eq_of_lt h1]
      rfl
    · have hn : n / 10 < 10 ^ (w + 1) := by
        rw [Nat.pow_succ] at h
        omega
      rw [dg_big (by omega), dw, ← dg_pad w _ hn, List.length_append, ← List.append_assoc]
      rw [show w + 1 + 1 - ((dg (n / 10)).length + [48 + n % 10].length) = w + 1 - (dg (n / 10)).length by simp only [List.length_cons, List.length_nil]; omega]
theorem dg_strip : ∀ (w n : Nat), 0 < n → n < 10 ^ w → (dw w n).dropWhile (fun c => c == 48) = dg n
  | 0, n, h0, h => by omega
  | w + 1, n, h0, h => by
    rw [dw]
    by_cases h1 : n < 10
    · rw [Nat.div_eq_of_lt h1, dw_zero, Nat.mod_eq_of_lt h1, dg_small h1]
      have : ∀ k : Nat, (List.replicate k 48 ++ [48 + n]).dropWhile (fun c => c == 48) = [48 + n] := fun k => by
        induction k with
        | zero =>
          rw [List.replicate_zero, List.nil_append, List.dropWhile_cons_of_neg]
          simp only [beq_iff_eq]
          omega
        | succ k ih =>
          rw [List.replicate_succ, List.cons_append, List.dropWhile_cons_of_pos (by rfl), ih]
      exact this w
    · have hn : n / 10 < 10 ^ w := by
        rw [Nat.pow_succ] at h
        omega
      have ih := dg_strip w (n / 10) (by omega) hn
      have hne : dg (n / 10) ≠ [] := by
        unfold dg
        intro h
        exact Nat.toDigits_ne_nil (List.map_eq_nil_iff.mp h)
      rw [List.dropWhile_append, ih, dg_big (n := n) (by omega)]
      cases e : dg (n / 10) with
      | nil => exact absurd e hne
      | cons a l => rfl

theorem dg_pos (n : Nat) : 0 < (dg n).length := by
  unfold dg
  rw [List.length_map]
  exact Nat.length_toDigits_pos
theorem tl_nat (n : Nat) : (Str.ofString (toString ((n : Nat) : Int))).cps.toList = dg n := by
  show (Str.ofString (Nat.repr n)).cps.toList = _
  rw [Str.ofString_eq_toList, Nat.toList_repr]
  rfl
theorem str_ext {a b : Str} (h : a.cps.toList = b.cps.toList) : a = b := Str.ext' (Array.toList_inj.mp h)
theorem str_neg {i : Int} (h : i < 0) : Str.ofString (toString i) = Str.ofString "-" ++ Str.ofString (toString (-i)) := by
  obtain ⟨m, rfl⟩ : ∃ m : Nat, i = Int.negSucc m := ⟨(-i - 1).toNat, by omega⟩
  refine str_ext ?_
  rw [tl_app, show -Int.negSucc m = ((m + 1 : Nat) : Int) from rfl, tl_nat]
  show (Str.ofString ("-" ++ Nat.repr (m + 1))).cps.toList = _
  rw [Str.ofString_eq_toList, String.toList_append, Nat.toList_repr, List.map_append]
  rfl
theorem str_le {i : Int} (h : 0 ≤ i) (z : Sz 1900 i) : (Str.ofString (toString i)).length ≤ 600 := by
  obtain ⟨n, rfl⟩ : ∃ n : Nat, i = n := ⟨i.toNat, by omega⟩
  have hn : n < 10 ^ 600 := Nat.lt_of_lt_of_le (show n < 2 ^ 1900 from z.1) (by decide +kernel)
  have e := congrArg List.length (tl_nat n)
  have := dg_len hn (by decide)
  rw [← e] at this
  exact this
theorem emp_app (x : Str) : Str.empty ++ x = x := str_ext (by rw [tl_app]; rfl)
theorem str_len1 {i : Int} (z : Sz 1900 i) : (Str.ofString (toString i)).length ≤ 601 := by
  by_cases h : 0 ≤ i
  · exact Nat.le_succ_of_le (str_le h z)
  · rw [str_neg (by omega), len_app]
    have := str_le (i := -i) (by omega) z.neg
    have e : (Str.ofString "-").length = 1 := rfl
    omega
/-- a chunk of w digits -/
theorem pad_tl {n w : Nat} (h : n < 10 ^ (w + 1)) : (Txt.rjustF (Str.ofString (toString ((n : Nat) : Int))) ((w + 1 : Nat) : Int) 48).cps.toList = dw (w + 1) n := by
  have e := tl_nat n
  have hl : (Str.ofString (toString ((n : Nat) : Int))).length = (dg n).length := by rw [← e]; rfl
  have hle := dg_len h (by omega)
  rw [← dg_pad w n h]
  unfold Txt.rjustF
  by_cases c : ((w + 1 : Nat) : Int) ≤ (Str.ofString (toString ((n : Nat) : Int))).length
  · rw [if_pos c, e, show w + 1 - (dg n).length = 0 by omega]
    rfl
  · rw [if_neg c]
    show (Array.replicate _ 48 ++ (Str.ofString (toString ((n : Nat) : Int))).cps ++ Array.replicate 0 48).toList = _
    rw [Array.toList_append, Array.toList_append, Array.toList_replicate, e, hl, Int.toNat_natCast]
    exact List.append_nil _
theorem lstrip_tl {x y : Str} : (Txt.lstripChars x y).cps.toList = x.cps.toList.dropWhile y.cps.contains := by
  unfold Txt.lstripChars
  rw [stripBy_eq]
  show (x.cps.extract (x.cps.toList.takeWhile y.cps.contains).length x.length).toList = _
  rw [Array.toList_extract]
  show ((x.cps.toList.drop _).take _) = _
  have : ∀ l : List Nat, (l.drop (l.takeWhile y.cps.contains).length).take (l.length - (l.takeWhile y.cps.contains).length) = l.dropWhile y.cps.contains := fun l => by
    rw [List.take_of_length_le (by rw [List.length_drop]; exact Nat.le_refl _)]
    induction l with
    | nil => rfl
    | cons a l ih =>
      by_cases c : y.cps.contains a = true
      · rw [List.takeWhile_cons_of_pos c, List.dropWhile_cons_of_pos c, List.length_cons, List.drop_succ_cons, ih]
      · rw [List.takeWhile_cons_of_neg c, List.dropWhile_cons_of_neg c]
        rfl
  exact this x.cps.toList
/-- the chunks of n, the last ones first -/
def chk (n : Nat) : Nat → List Str
  | 0 => []
  | k + 1 => chk n k ++ [Txt.rjustF (Str.ofString (toString ((n / (10 ^ 18) ^ k % 10 ^ 18 : Nat) : Int))) ((18 : Nat) : Int) 48]
theorem chk_tl (n : Nat) : ∀ k, (chk n k).reverse.flatMap (fun y => y.cps.toList) = dw (18 * k) n
  | 0 => rfl
  | k + 1 => by
    have h : n / (10 ^ 18) ^ k % 10 ^ 18 < 10 ^ (17 + 1) := Nat.mod_lt _ (by decide)
    rw [chk, List.reverse_append, List.flatMap_append, chk_tl n k]
    show (Txt.rjustF _ _ 48).cps.toList ++ [] ++ dw (18 * k) n = _
    rw [List.append_nil, pad_tl h, show (17 + 1 : Nat) = 18 from rfl, dw_mod, show 18 * (k + 1) = 18 + 18 * k by omega, dw_add, Nat.pow_mul]
theorem chk_len (n : Nat) : ∀ k, (chk n k).length = k
  | 0 => rfl
  | k + 1 => by rw [chk, List.length_append, chk_len n k]; rfl
theorem chk_each (n : Nat) : ∀ k, ∀ y ∈ chk n k, y.length = 18
  | 0, y, h => nomatch h
  | k + 1, y, h => by
    rw [chk, List.mem_append] at h
    rcases h with h | h
    · exact chk_each n k y h
    · rw [List.mem_singleton] at h
      have hh : n / (10 ^ 18) ^ k % 10 ^ 18 < 10 ^ (17 + 1) := Nat.mod_lt _ (by decide)
      have e := congrArg List.length (pad_tl hh)
      rw [dw_len] at e
      rw [h]
      exact e
theorem sum18 : ∀ l : List Str, (∀ y ∈ l, y.length = 18) → (l.map (·.length)).sum = 18 * l.length
  | [], _ => rfl
  | a :: l, h => by
    rw [List.map_cons, List.sum_cons, sum18 l fun y hy => h y (.tail _ hy), h a (.head _), List.length_cons]
    omega
/-- what show_integer's loop leaves -/
theorem chk_str {n k : Nat} (h0 : 0 < n) (h : n < (10 ^ 18) ^ k) : Txt.lstripChars (Txt.join Str.empty (chk n k).reverse) (Str.ofString "0") = Str.ofString (toString ((n : Nat) : Int)) := by
  refine str_ext ?_
  rw [lstrip_tl, tl_join0, chk_tl, tl_nat, ← dg_strip (18 * k) n h0 (by rw [Nat.pow_mul]; exact h)]
  congr 1
  funext c
  show (Str.ofString "0").cps.contains c = (c == 48)
  have : (Str.ofString "0").cps = #[48] := by decide +kernel
  rw [this]
  by_cases e : c = 48
  · subst e; simp
  · have : (c == 48) = false := beq_false_of_ne e
    rw [this]
    simp [e]
end LB

set_option Elab.async false
set_option linter.all false
set_option maxRecDepth 100000
set_option maxHeartbeats 4000000
/-! names that end in a number -/
namespace LB
open PySem PySem.Spec PyProof.Rows L2
theorem dg_dig (n : Nat) : ∀ c ∈ dg n, digC c = true := by
  induction n using Nat.strongRecOn with
  | _ n ih =>
    intro c hc
    have hd : ∀ k : Nat, k < 10 → digC (48 + k) = true := by decide
    by_cases h : n < 10
    · rw [dg_small h, List.mem_singleton] at hc
      rw [hc]
      exact hd n h
    · rw [dg_big (by omega)] at hc
      rcases List.mem_append.mp hc with hc | hc
      · exact ih (n / 10) (by omega) c hc
      · rw [List.mem_singleton] at hc
        rw [hc]
        exact hd _ (by omega)
/-- a name and a number behind it -/
theorem nm_num {z : Str} {i : Int} {w : Nat} (h : nameB z = true) (h0 : 0 ≤ i) (h1 : i < 10 ^ w) (hw : 0 < w) (hl : z.length + w ≤ 12) : nameB (z ++ (toString i : Str)) = true := by
  obtain ⟨n, rfl⟩ : ∃ n : Nat, i = n := ⟨i.toNat, by omega⟩
  have hn : n < 10 ^ w := by
    have : ((n : Nat) : Int) < ((10 ^ w : Nat) : Int) := by rw [Int.natCast_pow]; exact h1
    omega
  obtain ⟨a1, a2, a3, a4⟩ := nameB_iff.mp h
  have et := tl_nat n
  have ec : (z ++ (toString ((n : Nat) : Int) : Str) : Str).cps.toList = z.cps.toList ++ dg n := by
    rw [← et]
    exact Array.toList_append
  have el : (z ++ (toString ((n : Nat) : Int) : Str) : Str).length = z.length + (dg n).length := by
    rw [len_app, ← et]
    rfl
  have := dg_len hn hw
  refine nameB_iff.mpr ⟨by omega, by omega, ?_, fun c hc => ?_⟩
  · rw [ec]
    cases hq : z.cps.toList with
    | nil =>
      rw [hq] at a3
      cases a3
    | cons a r =>
      rw [hq] at a3
      exact a3
  · rw [ec] at hc
    rcases List.mem_append.mp hc with hc | hc
    · exact a4 c hc
    · rw [dg_dig n c hc, Bool.or_true]
end LB

set_option Elab.async false
set_option linter.all false
set_option maxRecDepth 100000
set_option maxHeartbeats 4000000
/-! zip of three lists, of three tuples (printed by mkz3.py) -/
namespace LB
open PySem PySem.Spec PyProof.Rows L2
theorem sep3 {n a b c : Addr} (ha : a < n) (hb : b < n) (hc : c < n) : ZipSep3 (n + 5) (n + 3) (n + 4) n (n + 1) (n + 2) [n, a] [n + 1, b] [n + 2, c] := by
  have e1 : a ≠ n := Nat.ne_of_lt ha
  have e2 : b ≠ n := Nat.ne_of_lt hb
  have e3 : c ≠ n := Nat.ne_of_lt hc
  have k : ∀ i : Nat, a ≠ n + i ∧ b ≠ n + i ∧ c ≠ n + i := fun i => ⟨Nat.ne_of_lt (Nat.lt_of_lt_of_le ha (Nat.le_add_right _ _)), Nat.ne_of_lt (Nat.lt_of_lt_of_le hb (Nat.le_add_right _ _)), Nat.ne_of_lt (Nat.lt_of_lt_of_le hc (Nat.le_add_right _ _))⟩
  have no : ∀ (x y : Addr) (i j : Nat), x = n + i → i ≠ j → y ≠ n + i → x ∉ [n + j, y] := fun x y i j hx hij hy q => by
    rcases List.mem_cons.mp q with q | q
    · have : n + i = n + j := hx.symm.trans q
      exact hij (Nat.add_left_cancel this)
    · exact hy ((List.mem_singleton.mp q).symm.trans hx)
  have d : ∀ i j : Nat, i ≠ j → (n + i : Addr) ≠ n + j := fun i j h q => h (Nat.add_left_cancel q)
  exact { TIz := d 3 5 (by decide), TOz := d 4 5 (by decide), TITO := d 3 4 (by decide), TIi1 := d 3 0 (by decide), mem1 := List.mem_cons_self, zf1 := no _ _ 5 0 rfl (by decide) (k 5).1, Tf1 := no _ _ 4 0 rfl (by decide) (k 4).1, TIi2 := d 3 1 (by decide), mem2 := List.mem_cons_self, zf2 := no _ _ 5 1 rfl (by decide) (k 5).2.1, Tf2 := no _ _ 4 1 rfl (by decide) (k 4).2.1, TIi3 := d 3 2 (by decide), mem3 := List.mem_cons_self, zf3 := no _ _ 5 2 rfl (by decide) (k 5).2.2, Tf3 := no _ _ 4 2 rfl (by decide) (k 4).2.2, sep1_2 := no _ _ 0 1 rfl (by decide) (k 0).2.1, sep1_3 := no _ _ 0 2 rfl (by decide) (k 0).2.2, sep2_1 := no _ _ 1 0 rfl (by decide) (k 1).1, sep2_3 := no _ _ 1 2 rfl (by decide) (k 1).2.2, sep3_1 := no _ _ 2 0 rfl (by decide) (k 2).1, sep3_2 := no _ _ 2 1 rfl (by decide) (k 2).2.1 }
/-- the tuples at a, b and c as they stand at each turn, the items in new tuples -/
def Itz3T (K : PySem.W.Frag) (a b c : Addr) : It :=
  ⟨fun i H => ∃ (xs ys zs : List V) (x y z : V), SqT K H a xs ∧ SqT K H b ys ∧ SqT K H c zs ∧ xs[i]? = some x ∧ ys[i]? = some y ∧ zs[i]? = some z,
    fun i H v H' => ∃ T x y z, v = .ref T ∧ H T = none ∧ H' = upd H T (.tup [x, y, z]) ∧ (∀ xs, SqT K H a xs → xs[i]? = some x) ∧ (∀ ys, SqT K H b ys → ys[i]? = some y) ∧ ∀ zs, SqT K H c zs → zs[i]? = some z,
    fun i H => ∃ xs ys zs : List V, SqT K H a xs ∧ SqT K H b ys ∧ SqT K H c zs ∧ i ≤ xs.length ∧ i ≤ ys.length ∧ i ≤ zs.length ∧ (i = xs.length ∨ i = ys.length ∨ i = zs.length)⟩
theorem turn_zip3T {P : Program} {w : World} {K : PySem.W.Frag} {elts : List Expr} {kk : Nat} {tpos : Pos} {a b c z TI TO i1 i2 i3 : Addr} (S : ZipSep3 z TI TO i1 i2 i3 [i1, a] [i2, b] [i3, c]) (ha : a ≠ i1) (hb : b ≠ i2) (hc3 : c ≠ i3) :
    Turn P w K (.Tuple elts kk tpos) (Itz3T K a b c) [z, TI, TO, i1, i2, i3] z (fun i h => IsZip h z TI TO .none ∧ IsTupOf3 h TI (.ref i1) (.ref i2) (.ref i3) ∧ (∃ x y v, IsTupOf3 h TO x y v) ∧ h.IsTupleIter i1 a i ∧ h.IsTupleIter i2 b i ∧ h.IsTupleIter i3 c i) where
  mem := by simp
  obj := fun i h st e he => by
    obtain ⟨hz, hTI, ⟨x, y, v, hTO⟩, ⟨o1, e1, _, d1⟩, ⟨o2, e2, _, d2⟩, ⟨o3, e3, _, d3⟩⟩ := st
    have e' : e = z ∨ e = TI ∨ e = TO ∨ e = i1 ∨ e = i2 ∨ e = i3 := by simpa using he
    rcases e' with q | q | q | q | q | q
    · rw [q]; exact ⟨_, hz, fun v q => nomatch q⟩
    · rw [q]; exact ⟨_, hTI, fun v q => nomatch q⟩
    · rw [q]; exact ⟨_, hTO, fun v q => nomatch q⟩
    · rw [q]; exact ⟨o1, e1, fun v q => by rw [d1] at q; cases q⟩
    · rw [q]; exact ⟨o2, e2, fun v q => by rw [d2] at q; cases q⟩
    · rw [q]; exact ⟨o3, e3, fun v q => by rw [d3] at q; cases q⟩
  keep := fun i h h' st k => by
    obtain ⟨hz, hTI, ⟨x, y, v, hTO⟩, h1, h2, h3⟩ := st
    exact ⟨k z (by simp) _ hz, k TI (by simp) _ hTI, ⟨x, y, v, k TO (by simp) _ hTO⟩, h1.at fun o q => k i1 (by simp) o q, h2.at fun o q => k i2 (by simp) o q, h3.at fun o q => k i3 (by simp) o q⟩
  item := by
    intro X hP hw hK hc i pins s σ H E I hf st hg
    subst hP hw hK
    obtain ⟨hz, hTI, ⟨x0, y0, v0, hTO⟩, h1, h2, h3⟩ := st
    obtain ⟨xs, ys, zs, x, y, v, hqx, hqy, hqz, hx, hy, hv⟩ := hg
    obtain ⟨its, rv, p, _⟩ := I.tuple hqx
    obtain ⟨its2, rv2, p2, _⟩ := I.tuple hqy
    obtain ⟨its3, rv3, p3, _⟩ := I.tuple hqz
    obtain ⟨u, hu, ru⟩ := rv.get hx
    obtain ⟨u2, hu2, ru2⟩ := rv2.get hy
    obtain ⟨u3, hu3, ru3⟩ := rv3.get hv
    have hzl : z < s.heap.objs.size := Heap.lt_size hz
    have hd : X.A.in1.handled = none := I.ok.hd hc
    have q1 : s.heap.IsTuple a its.toArray := p
    have q2 : s.heap.IsTuple b its2.toArray := p2
    have q3 : s.heap.IsTuple c its3.toArray := p3
    have l1 : i < its.toArray.size := by have := (List.getElem?_eq_some_iff.mp hu).1; simpa using this
    have l2 : i < its2.toArray.size := by have := (List.getElem?_eq_some_iff.mp hu2).1; simpa using this
    have l3 : i < its3.toArray.size := by have := (List.getElem?_eq_some_iff.mp hu3).1; simpa using this
    refine wpAny_pyNext_zipD3_item S (Draws.tuple hd i1 a ha its.toArray) (Draws.tuple hd i2 b hb its2.toArray) (Draws.tuple hd i3 c hc3 its3.toArray) hz hTI hTO ⟨h1, q1⟩ ⟨h2, q2⟩ ⟨h3, q3⟩ l1 l2 l3 fun y1 y2 y3 h' tk g1 g2 g3 z' TO' s1' s2' s3' hT hsz hk => ?_
    have ey1 : y1 = u := by have h : its.toArray[i]? = some u := by simpa using hu
                            exact Option.some.inj (g1.symm.trans h)
    have ey2 : y2 = u2 := by have h : its2.toArray[i]? = some u2 := by simpa using hu2
                             exact Option.some.inj (g2.symm.trans h)
    have ey3 : y3 = u3 := by have h : its3.toArray[i]? = some u3 := by simpa using hu3
                             exact Option.some.inj (g3.symm.trans h)
    subst ey1 ey2 ey3
    refine ⟨_, rfl, wpAny_letOwnedTupleGo_zip (s := { s with heap := h', toks := tk }) z' fun h'' z'' sb => ?_⟩
    have hT2 : h''.get? s.heap.objs.size = some { cls := .type "tuple", data := .seq #[y1, y2, y3] } := (sb.2 _ (Nat.ne_of_gt hzl)).trans hT
    have new : ObjOk X.prog X.w (upd H s.heap.objs.size (.tup [x, y, v])) h'' s.heap.objs.size (.tup [x, y, v]) :=
      ⟨by show 3 ≤ sizeLine; decide, [y1, y2, y3], .cons ru (.cons ru2 (.cons ru3 .nil)), ⟨_, hT2, rfl, _, rfl⟩⟩
    have I1 : Inv X pins σ (upd H s.heap.objs.size (.tup [x, y, v])) { s with heap := h'', toks := tk } :=
      I.turnedNew (t' := tk) (ch := [z, TI, TO, i1, i2, i3]) (fun e o hb q => (sb.2 e (fun q' => hb (by simp [q']))).trans (hk e o (fun q' => hb (by simp [q'])) (fun q' => hb (by simp [q'])) (fun q' => hb (by simp [q'])) (fun q' => hb (by simp [q'])) (fun q' => hb (by simp [q'])) q)) hf (Nat.le_refl _) new
    refine ⟨.ref s.heap.objs.size, _, I1, rfl, ⟨_, x, y, v, rfl, I.hok.fresh (Nat.le_refl _), rfl, fun l hl => by rw [I.tuple_inj hl hqx]; exact hx, fun l hl => by rw [I.tuple_inj hl hqy]; exact hy, fun l hl => by rw [I.tuple_inj hl hqz]; exact hv⟩, ⟨z'', ?_, ⟨y1, y2, y3, ?_⟩, ?_, ?_, ?_⟩, fun e hcm => ?_⟩
    · exact (sb.2 _ S.TIz).trans (hk _ _ S.TIz S.TITO S.TIi1 S.TIi2 S.TIi3 hTI)
    · exact (sb.2 _ S.TOz).trans TO'
    · exact s1'.1.at fun o q => (sb.2 _ (fun q' => S.zf1 (by rw [← q']; exact List.mem_cons_self))).trans q
    · exact s2'.1.at fun o q => (sb.2 _ (fun q' => S.zf2 (by rw [← q']; exact List.mem_cons_self))).trans q
    · exact s3'.1.at fun o q => (sb.2 _ (fun q' => S.zf3 (by rw [← q']; exact List.mem_cons_self))).trans q
    · have hlt : e < s.heap.objs.size := by
        have e' : e = z ∨ e = TI ∨ e = TO ∨ e = i1 ∨ e = i2 ∨ e = i3 := by simpa using hcm
        rcases e' with q | q | q | q | q | q
        · rw [q]; exact hzl
        · rw [q]; exact Heap.lt_size hTI
        · rw [q]; exact Heap.lt_size hTO
        · rw [q]; obtain ⟨_, e1, _⟩ := h1; exact Heap.lt_size e1
        · rw [q]; obtain ⟨_, e2, _⟩ := h2; exact Heap.lt_size e2
        · rw [q]; obtain ⟨_, e3, _⟩ := h3; exact Heap.lt_size e3
      rw [upd_ne (Nat.ne_of_lt hlt)]
      exact (hf e hcm).1
  done := by
    intro X hP hw hK hc i pins s σ H E I hf st hg
    subst hP hw hK
    obtain ⟨hz, hTI, ⟨x0, y0, v0, hTO⟩, h1, h2, h3⟩ := st
    obtain ⟨xs, ys, zs, hqx, hqy, hqz, g1, g2, g3, hend⟩ := hg
    obtain ⟨its, rv, p, _⟩ := I.tuple hqx
    obtain ⟨its2, rv2, p2, _⟩ := I.tuple hqy
    obtain ⟨its3, rv3, p3, _⟩ := I.tuple hqz
    have l1 := rv.length
    have l2 := rv2.length
    have l3 := rv3.length
    have hd : X.A.in1.handled = none := I.ok.hd hc
    have q1 : s.heap.IsTuple a its.toArray := p
    have q2 : s.heap.IsTuple b its2.toArray := p2
    have q3 : s.heap.IsTuple c its3.toArray := p3
    have m1 : its.toArray.size = xs.length := by simp; omega
    have m2 : its2.toArray.size = ys.length := by simp; omega
    have m3 : its3.toArray.size = zs.length := by simp; omega
    exact wpAny_pyNext_zipD3_end S (Draws.tuple hd i1 a ha its.toArray) (Draws.tuple hd i2 b hb its2.toArray) (Draws.tuple hd i3 c hc3 its3.toArray) hz hTI hTO ⟨h1, q1⟩ ⟨h2, q2⟩ ⟨h3, q3⟩ (by omega) (by omega) (by omega) (by omega) fun h' tk hk => ⟨rfl, I.turnedL (t' := tk) (ch := [z, TI, TO, i1, i2, i3]) (fun e o hb q =>
      hk e o (fun q' => hb (by simp [q'])) (fun q' => hb (by simp [q'])) (fun q' => hb (by simp [q'])) (fun q' => hb (by simp [q'])) (fun q' => hb (by simp [q'])) q) hf⟩
  self := fun A i s Q E st h => wpAny_pyIter_zip st.1 h
def iZip3T (K : PySem.W.Frag) (ta : TA) : TI := fun σ H R => ta σ H fun vs H1 => ∃ a b c xs ys zs, vs = [.ref a, .ref b, .ref c] ∧ SqT K H1 a xs ∧ SqT K H1 b ys ∧ SqT K H1 c zs ∧ R (Itz3T K a b c) H1
theorem pi_zip3T {X : Cx} {e e2 e3 : Expr} {ta : TA} {p pos tpos : Pos} {elts : List Expr} {kk : Nat} (hg : Gl X "zip") (hm : X.mg "zip" = none) (ha : PA X [e, e2, e3] ta)
    (hs : starEach [e, e2, e3] X.env = (false, eval e X.env) :: starEach [e2, e3] X.env := by rfl) (hpl : (backTo pos (starEach [e2, e3] X.env)).any (·.1) = false := by rfl) :
    PI X (.Tuple elts kk tpos) (.Call (.Name "zip" p) [e, e2, e3] [] pos) (iZip3T X.K ta) := by
  refine ⟨fun pins s σ H R I h => ?_⟩
  refine Call_ (ld_blt I hg hm PyProof.Rows.boot_zip (PyProof.Rows.callWith_type1 (thn (ha.run pos pins s σ H _ I h) fun us s1 ⟨vs, H1, I1, r1, q1⟩ => ?_) hs hpl))
  obtain ⟨a, b, c, xs, ys, zs, ex, hqx, hqy, hqz, q⟩ := q1
  subst ex
  cases r1 with
  | cons r rr =>
    cases rr with
    | cons r' rr =>
      cases rr with
      | cons r'' rr =>
        cases rr
        cases r
        cases r'
        cases r''
        obtain ⟨its, rv, p1, _⟩ := I1.tuple hqx
        obtain ⟨its2, rv2, p2, _⟩ := I1.tuple hqy
        obtain ⟨its3, rv3, p3, _⟩ := I1.tuple hqz
        have q1 : s1.heap.IsTuple a its.toArray := p1
        have q2 : s1.heap.IsTuple b its2.toArray := p2
        have q3 : s1.heap.IsTuple c its3.toArray := p3
        have la : a < s1.heap.objs.size := by obtain ⟨o, ho, _⟩ := id q1; exact Heap.lt_size ho
        have lb : b < s1.heap.objs.size := by obtain ⟨o, ho, _⟩ := id q2; exact Heap.lt_size ho
        have lc : c < s1.heap.objs.size := by obtain ⟨o, ho, _⟩ := id q3; exact Heap.lt_size ho
        refine zip_begins3 (begins_tuple a its.toArray) (begins_tuple b its2.toArray) (begins_tuple c its3.toArray) q1 q2 q3 fun h' hz hTI hTO g1 g2 g3 hsz hk => wpAny_pyIter_zip hz ?_
        have I2 : Inv X pins σ H1 { s1 with heap := h' } := I1.kept (t' := s1.toks) hk
        refine ⟨s1.heap.objs.size + 5, [s1.heap.objs.size + 5, s1.heap.objs.size + 3, s1.heap.objs.size + 4, s1.heap.objs.size, s1.heap.objs.size + 1, s1.heap.objs.size + 2], _, _, H1, rfl, I2, turn_zip3T (sep3 la lb lc) (Nat.ne_of_lt la) (Nat.ne_of_lt (Nat.lt_succ_of_lt lb)) (Nat.ne_of_lt (Nat.lt_succ_of_lt (Nat.lt_succ_of_lt lc))), ⟨hz, hTI, ⟨_, _, _, hTO⟩, ⟨_, g1, rfl, rfl⟩, ⟨_, g2, rfl, rfl⟩, ⟨_, g3, rfl, rfl⟩⟩, fun e hcm => ?_, q⟩
        have e' : e = s1.heap.objs.size + 5 ∨ e = s1.heap.objs.size + 3 ∨ e = s1.heap.objs.size + 4 ∨ e = s1.heap.objs.size ∨ e = s1.heap.objs.size + 1 ∨ e = s1.heap.objs.size + 2 := by simpa using hcm
        have hle : s1.heap.objs.size ≤ e := by
          rcases e' with z | z | z | z | z | z
          · rw [z]; exact Nat.le_add_right _ _
          · rw [z]; exact Nat.le_add_right _ _
          · rw [z]; exact Nat.le_add_right _ _
          · rw [z]; exact Nat.le_refl _
          · rw [z]; exact Nat.le_add_right _ _
          · rw [z]; exact Nat.le_add_right _ _
        exact I1.fpOk hle (I1.hok.fresh hle)
theorem for_zip3T {K : PySem.W.Frag} {a b c : Addr} {xs ys zs : List V} {g : TG} {tb : TS} {D : Ends} {σ : L2.St} {H : Hp} (hl : xs.length = ys.length) (hl2 : xs.length = zs.length) (Pv : Nat → L2.St → Hp → Prop) (h0 : Pv 0 σ H) (hq : ∀ i σ H, Pv i σ H → SqT K H a xs ∧ SqT K H b ys ∧ SqT K H c zs)
    (hs : ∀ (i : Nat) (x y z : V) (T : Addr) (σ : L2.St) (H : Hp), xs[i]? = some x → ys[i]? = some y → zs[i]? = some z → Pv i σ H → H T = none → g (.ref T) σ (upd H T (.tup [x, y, z])) fun σ2 H2 => tb { D with nx := Pv (i + 1), ct := Pv (i + 1), bk := D.nx } σ2 H2) (hd : ∀ σ H, Pv xs.length σ H → D.nx σ H) :
    ∃ W : Nat → Nat → L2.St → Hp → Prop, (∃ m, W 0 m σ H) ∧ ∀ i m σ H, W i m σ H →
      ((Itz3T K a b c).stop i H ∧ D.nx σ H) ∨ ((Itz3T K a b c).go i H ∧ ∃ N : L2.St → Hp → Prop, (∀ σ' H', N σ' H' → ∃ m', m' < m ∧ W (i + 1) m' σ' H') ∧ ∀ v H', (Itz3T K a b c).yld i H v H' → g v σ H' fun σ2 H2 => tb { D with nx := N, ct := N, bk := D.nx } σ2 H2) := by
  refine ⟨fun i m σ H => m = xs.length - i ∧ i ≤ xs.length ∧ Pv i σ H, ⟨xs.length, rfl, Nat.zero_le _, h0⟩, ?_⟩
  rintro i m σ H ⟨rfl, hi, p⟩
  obtain ⟨qx, qy, qz⟩ := hq i σ H p
  by_cases hlt : i < xs.length
  · have hx : xs[i]? = some xs[i] := List.getElem?_eq_getElem hlt
    have hlt2 : i < ys.length := by omega
    have hlt3 : i < zs.length := by omega
    have hy : ys[i]? = some ys[i] := List.getElem?_eq_getElem hlt2
    have hz : zs[i]? = some zs[i] := List.getElem?_eq_getElem hlt3
    refine .inr ⟨⟨xs, ys, zs, _, _, _, qx, qy, qz, hx, hy, hz⟩, Pv (i + 1), fun σ' H' p' => ⟨xs.length - (i + 1), by omega, rfl, hlt, p'⟩, fun v H' y => ?_⟩
    obtain ⟨T, x', y', z', rfl, hT, rfl, f1, f2, f3⟩ := y
    exact hs i x' y' z' T σ H (f1 xs qx) (f2 ys qy) (f3 zs qz) p hT
  · have e : i = xs.length := by omega
    subst e
    exact .inl ⟨⟨xs, ys, zs, qx, qy, qz, Nat.le_refl _, by omega, by omega, .inl rfl⟩, hd σ H p⟩
/-- the lists at a, b and c as they stand at each turn, the items in new tuples -/
def Itz3L (K : PySem.W.Frag) (a b c : Addr) : It :=
  ⟨fun i H => ∃ (xs ys zs : List V) (x y z : V), SqL K H a xs ∧ SqL K H b ys ∧ SqL K H c zs ∧ xs[i]? = some x ∧ ys[i]? = some y ∧ zs[i]? = some z,
    fun i H v H' => ∃ T x y z, v = .ref T ∧ H T = none ∧ H' = upd H T (.tup [x, y, z]) ∧ (∀ xs, SqL K H a xs → xs[i]? = some x) ∧ (∀ ys, SqL K H b ys → ys[i]? = some y) ∧ ∀ zs, SqL K H c zs → zs[i]? = some z,
    fun i H => ∃ xs ys zs : List V, SqL K H a xs ∧ SqL K H b ys ∧ SqL K H c zs ∧ i ≤ xs.length ∧ i ≤ ys.length ∧ i ≤ zs.length ∧ (i = xs.length ∨ i = ys.length ∨ i = zs.length)⟩
theorem turn_zip3L {P : Program} {w : World} {K : PySem.W.Frag} {elts : List Expr} {kk : Nat} {tpos : Pos} {a b c z TI TO i1 i2 i3 : Addr} (S : ZipSep3 z TI TO i1 i2 i3 [i1, a] [i2, b] [i3, c]) (ha : a ≠ i1) (hb : b ≠ i2) (hc3 : c ≠ i3) :
    Turn P w K (.Tuple elts kk tpos) (Itz3L K a b c) [z, TI, TO, i1, i2, i3] z (fun i h => IsZip h z TI TO .none ∧ IsTupOf3 h TI (.ref i1) (.ref i2) (.ref i3) ∧ (∃ x y v, IsTupOf3 h TO x y v) ∧ h.IsListIter i1 a i ∧ h.IsListIter i2 b i ∧ h.IsListIter i3 c i) where
  mem := by simp
  obj := fun i h st e he => by
    obtain ⟨hz, hTI, ⟨x, y, v, hTO⟩, ⟨o1, e1, _, d1⟩, ⟨o2, e2, _, d2⟩, ⟨o3, e3, _, d3⟩⟩ := st
    have e' : e = z ∨ e = TI ∨ e = TO ∨ e = i1 ∨ e = i2 ∨ e = i3 := by simpa using he
    rcases e' with q | q | q | q | q | q
    · rw [q]; exact ⟨_, hz, fun v q => nomatch q⟩
    · rw [q]; exact ⟨_, hTI, fun v q => nomatch q⟩
    · rw [q]; exact ⟨_, hTO, fun v q => nomatch q⟩
    · rw [q]; exact ⟨o1, e1, fun v q => by rw [d1] at q; cases q⟩
    · rw [q]; exact ⟨o2, e2, fun v q => by rw [d2] at q; cases q⟩
    · rw [q]; exact ⟨o3, e3, fun v q => by rw [d3] at q; cases q⟩
  keep := fun i h h' st k => by
    obtain ⟨hz, hTI, ⟨x, y, v, hTO⟩, h1, h2, h3⟩ := st
    exact ⟨k z (by simp) _ hz, k TI (by simp) _ hTI, ⟨x, y, v, k TO (by simp) _ hTO⟩, h1.at fun o q => k i1 (by simp) o q, h2.at fun o q => k i2 (by simp) o q, h3.at fun o q => k i3 (by simp) o q⟩
  item := by
    intro X hP hw hK hc i pins s σ H E I hf st hg
    subst hP hw hK
    obtain ⟨hz, hTI, ⟨x0, y0, v0, hTO⟩, h1, h2, h3⟩ := st
    obtain ⟨xs, ys, zs, x, y, v, hqx, hqy, hqz, hx, hy, hv⟩ := hg
    obtain ⟨its, rv, p, _⟩ := I.list hqx
    obtain ⟨its2, rv2, p2, _⟩ := I.list hqy
    obtain ⟨its3, rv3, p3, _⟩ := I.list hqz
    obtain ⟨u, hu, ru⟩ := rv.get hx
    obtain ⟨u2, hu2, ru2⟩ := rv2.get hy
    obtain ⟨u3, hu3, ru3⟩ := rv3.get hv
    have hzl : z < s.heap.objs.size := Heap.lt_size hz
    have hd : X.A.in1.handled = none := I.ok.hd hc
    have q1 : s.heap.IsList a its.toArray := p.isList
    have q2 : s.heap.IsList b its2.toArray := p2.isList
    have q3 : s.heap.IsList c its3.toArray := p3.isList
    have l1 : i < its.toArray.size := by have := (List.getElem?_eq_some_iff.mp hu).1; simpa using this
    have l2 : i < its2.toArray.size := by have := (List.getElem?_eq_some_iff.mp hu2).1; simpa using this
    have l3 : i < its3.toArray.size := by have := (List.getElem?_eq_some_iff.mp hu3).1; simpa using this
    refine wpAny_pyNext_zipD3_item S (Draws.list hd i1 a ha its.toArray) (Draws.list hd i2 b hb its2.toArray) (Draws.list hd i3 c hc3 its3.toArray) hz hTI hTO ⟨h1, q1⟩ ⟨h2, q2⟩ ⟨h3, q3⟩ l1 l2 l3 fun y1 y2 y3 h' tk g1 g2 g3 z' TO' s1' s2' s3' hT hsz hk => ?_
    have ey1 : y1 = u := by have h : its.toArray[i]? = some u := by simpa using hu
                            exact Option.some.inj (g1.symm.trans h)
    have ey2 : y2 = u2 := by have h : its2.toArray[i]? = some u2 := by simpa using hu2
                             exact Option.some.inj (g2.symm.trans h)
    have ey3 : y3 = u3 := by have h : its3.toArray[i]? = some u3 := by simpa using hu3
                             exact Option.some.inj (g3.symm.trans h)
    subst ey1 ey2 ey3
    refine ⟨_, rfl, wpAny_letOwnedTupleGo_zip (s := { s with heap := h', toks := tk }) z' fun h'' z'' sb => ?_⟩
    have hT2 : h''.get? s.heap.objs.size = some { cls := .type "tuple", data := .seq #[y1, y2, y3] } := (sb.2 _ (Nat.ne_of_gt hzl)).trans hT
    have new : ObjOk X.prog X.w (upd H s.heap.objs.size (.tup [x, y, v])) h'' s.heap.objs.size (.tup [x, y, v]) :=
      ⟨by show 3 ≤ sizeLine; decide, [y1, y2, y3], .cons ru (.cons ru2 (.cons ru3 .nil)), ⟨_, hT2, rfl, _, rfl⟩⟩
    have I1 : Inv X pins σ (upd H s.heap.objs.size (.tup [x, y, v])) { s with heap := h'', toks := tk } :=
      I.turnedNew (t' := tk) (ch := [z, TI, TO, i1, i2, i3]) (fun e o hb q => (sb.2 e (fun q' => hb (by simp [q']))).trans (hk e o (fun q' => hb (by simp [q'])) (fun q' => hb (by simp [q'])) (fun q' => hb (by simp [q'])) (fun q' => hb (by simp [q'])) (fun q' => hb (by simp [q'])) q)) hf (Nat.le_refl _) new
    refine ⟨.ref s.heap.objs.size, _, I1, rfl, ⟨_, x, y, v, rfl, I.hok.fresh (Nat.le_refl _), rfl, fun l hl => by rw [I.list_inj hl hqx]; exact hx, fun l hl => by rw [I.list_inj hl hqy]; exact hy, fun l hl => by rw [I.list_inj hl hqz]; exact hv⟩, ⟨z'', ?_, ⟨y1, y2, y3, ?_⟩, ?_, ?_, ?_⟩, fun e hcm => ?_⟩
    · exact (sb.2 _ S.TIz).trans (hk _ _ S.TIz S.TITO S.TIi1 S.TIi2 S.TIi3 hTI)
    · exact (sb.2 _ S.TOz).trans TO'
    · exact s1'.1.at fun o q => (sb.2 _ (fun q' => S.zf1 (by rw [← q']; exact List.mem_cons_self))).trans q
    · exact s2'.1.at fun o q => (sb.2 _ (fun q' => S.zf2 (by rw [← q']; exact List.mem_cons_self))).trans q
    · exact s3'.1.at fun o q => (sb.2 _ (fun q' => S.zf3 (by rw [← q']; exact List.mem_cons_self))).trans q
    · have hlt : e < s.heap.objs.size := by
        have e' : e = z ∨ e = TI ∨ e = TO ∨ e = i1 ∨ e = i2 ∨ e = i3 := by simpa using hcm
        rcases e' with q | q | q | q | q | q
        · rw [q]; exact hzl
        · rw [q]; exact Heap.lt_size hTI
        · rw [q]; exact Heap.lt_size hTO
        · rw [q]; obtain ⟨_, e1, _⟩ := h1; exact Heap.lt_size e1
        · rw [q]; obtain ⟨_, e2, _⟩ := h2; exact Heap.lt_size e2
        · rw [q]; obtain ⟨_, e3, _⟩ := h3; exact Heap.lt_size e3
      rw [upd_ne (Nat.ne_of_lt hlt)]
      exact (hf e hcm).1
  done := by
    intro X hP hw hK hc i pins s σ H E I hf st hg
    subst hP hw hK
    obtain ⟨hz, hTI, ⟨x0, y0, v0, hTO⟩, h1, h2, h3⟩ := st
    obtain ⟨xs, ys, zs, hqx, hqy, hqz, g1, g2, g3, hend⟩ := hg
    obtain ⟨its, rv, p, _⟩ := I.list hqx
    obtain ⟨its2, rv2, p2, _⟩ := I.list hqy
    obtain ⟨its3, rv3, p3, _⟩ := I.list hqz
    have l1 := rv.length
    have l2 := rv2.length
    have l3 := rv3.length
    have hd : X.A.in1.handled = none := I.ok.hd hc
    have q1 : s.heap.IsList a its.toArray := p.isList
    have q2 : s.heap.IsList b its2.toArray := p2.isList
    have q3 : s.heap.IsList c its3.toArray := p3.isList
    have m1 : its.toArray.size = xs.length := by simp; omega
    have m2 : its2.toArray.size = ys.length := by simp; omega
    have m3 : its3.toArray.size = zs.length := by simp; omega
    exact wpAny_pyNext_zipD3_end S (Draws.list hd i1 a ha its.toArray) (Draws.list hd i2 b hb its2.toArray) (Draws.list hd i3 c hc3 its3.toArray) hz hTI hTO ⟨h1, q1⟩ ⟨h2, q2⟩ ⟨h3, q3⟩ (by omega) (by omega) (by omega) (by omega) fun h' tk hk => ⟨rfl, I.turnedL (t' := tk) (ch := [z, TI, TO, i1, i2, i3]) (fun e o hb q =>
      hk e o (fun q' => hb (by simp [q'])) (fun q' => hb (by simp [q'])) (fun q' => hb (by simp [q'])) (fun q' => hb (by simp [q'])) (fun q' => hb (by simp [q'])) q) hf⟩
  self := fun A i s Q E st h => wpAny_pyIter_zip st.1 h
def iZip3L (K : PySem.W.Frag) (ta : TA) : TI := fun σ H R => ta σ H fun vs H1 => ∃ a b c xs ys zs, vs = [.ref a, .ref b, .ref c] ∧ SqL K H1 a xs ∧ SqL K H1 b ys ∧ SqL K H1 c zs ∧ R (Itz3L K a b c) H1
theorem pi_zip3L {X : Cx} {e e2 e3 : Expr} {ta : TA} {p pos tpos : Pos} {elts : List Expr} {kk : Nat} (hg : Gl X "zip") (hm : X.mg "zip" = none) (ha : PA X [e, e2, e3] ta)
    (hs : starEach [e, e2, e3] X.env = (false, eval e X.env) :: starEach [e2, e3] X.env := by rfl) (hpl : (backTo pos (starEach [e2, e3] X.env)).any (·.1) = false := by rfl) :
    PI X (.Tuple elts kk tpos) (.Call (.Name "zip" p) [e, e2, e3] [] pos) (iZip3L X.K ta) := by
  refine ⟨fun pins s σ H R I h => ?_⟩
  refine Call_ (ld_blt I hg hm PyProof.Rows.boot_zip (PyProof.Rows.callWith_type1 (thn (ha.run pos pins s σ H _ I h) fun us s1 ⟨vs, H1, I1, r1, q1⟩ => ?_) hs hpl))
  obtain ⟨a, b, c, xs, ys, zs, ex, hqx, hqy, hqz, q⟩ := q1
  subst ex
  cases r1 with
  | cons r rr =>
    cases rr with
    | cons r' rr =>
      cases rr with
      | cons r'' rr =>
        cases rr
        cases r
        cases r'
        cases r''
        obtain ⟨its, rv, p1, _⟩ := I1.list hqx
        obtain ⟨its2, rv2, p2, _⟩ := I1.list hqy
        obtain ⟨its3, rv3, p3, _⟩ := I1.list hqz
        have q1 : s1.heap.IsList a its.toArray := p1.isList
        have q2 : s1.heap.IsList b its2.toArray := p2.isList
        have q3 : s1.heap.IsList c its3.toArray := p3.isList
        have la : a < s1.heap.objs.size := by obtain ⟨o, ho, _⟩ := id q1; exact Heap.lt_size ho
        have lb : b < s1.heap.objs.size := by obtain ⟨o, ho, _⟩ := id q2; exact Heap.lt_size ho
        have lc : c < s1.heap.objs.size := by obtain ⟨o, ho, _⟩ := id q3; exact Heap.lt_size ho
        refine zip_begins3 (begins_list a its.toArray) (begins_list b its2.toArray) (begins_list c its3.toArray) q1 q2 q3 fun h' hz hTI hTO g1 g2 g3 hsz hk => wpAny_pyIter_zip hz ?_
        have I2 : Inv X pins σ H1 { s1 with heap := h' } := I1.kept (t' := s1.toks) hk
        refine ⟨s1.heap.objs.size + 5, [s1.heap.objs.size + 5, s1.heap.objs.size + 3, s1.heap.objs.size + 4, s1.heap.objs.size, s1.heap.objs.size + 1, s1.heap.objs.size + 2], _, _, H1, rfl, I2, turn_zip3L (sep3 la lb lc) (Nat.ne_of_lt la) (Nat.ne_of_lt (Nat.lt_succ_of_lt lb)) (Nat.ne_of_lt (Nat.lt_succ_of_lt (Nat.lt_succ_of_lt lc))), ⟨hz, hTI, ⟨_, _, _, hTO⟩, ⟨_, g1, rfl, rfl⟩, ⟨_, g2, rfl, rfl⟩, ⟨_, g3, rfl, rfl⟩⟩, fun e hcm => ?_, q⟩
        have e' : e = s1.heap.objs.size + 5 ∨ e = s1.heap.objs.size + 3 ∨ e = s1.heap.objs.size + 4 ∨ e = s1.heap.objs.size ∨ e = s1.heap.objs.size + 1 ∨ e = s1.heap.objs.size + 2 := by simpa using hcm
        have hle : s1.heap.objs.size ≤ e := by
          rcases e' with z | z | z | z | z | z
          · rw [z]; exact Nat.le_add_right _ _
          · rw [z]; exact Nat.le_add_right _ _
          · rw [z]; exact Nat.le_add_right _ _
          · rw [z]; exact Nat.le_refl _
          · rw [z]; exact Nat.le_add_right _ _
          · rw [z]; exact Nat.le_add_right _ _
        exact I1.fpOk hle (I1.hok.fresh hle)
theorem for_zip3L {K : PySem.W.Frag} {a b c : Addr} {xs ys zs : List V} {g : TG} {tb : TS} {D : Ends} {σ : L2.St} {H : Hp} (hl : xs.length = ys.length) (hl2 : xs.length = zs.length) (Pv : Nat → L2.St → Hp → Prop) (h0 : Pv 0 σ H) (hq : ∀ i σ H, Pv i σ H → SqL K H a xs ∧ SqL K H b ys ∧ SqL K H c zs)
    (hs : ∀ (i : Nat) (x y z : V) (T : Addr) (σ : L2.St) (H : Hp), xs[i]? = some x → ys[i]? = some y → zs[i]? = some z → Pv i σ H → H T = none → g (.ref T) σ (upd H T (.tup [x, y, z])) fun σ2 H2 => tb { D with nx := Pv (i + 1), ct := Pv (i + 1), bk := D.nx } σ2 H2) (hd : ∀ σ H, Pv xs.length σ H → D.nx σ H) :
    ∃ W : Nat → Nat → L2.St → Hp → Prop, (∃ m, W 0 m σ H) ∧ ∀ i m σ H, W i m σ H →
      ((Itz3L K a b c).stop i H ∧ D.nx σ H) ∨ ((Itz3L K a b c).go i H ∧ ∃ N : L2.St → Hp → Prop, (∀ σ' H', N σ' H' → ∃ m', m' < m ∧ W (i + 1) m' σ' H') ∧ ∀ v H', (Itz3L K a b c).yld i H v H' → g v σ H' fun σ2 H2 => tb { D with nx := N, ct := N, bk := D.nx } σ2 H2) := by
  refine ⟨fun i m σ H => m = xs.length - i ∧ i ≤ xs.length ∧ Pv i σ H, ⟨xs.length, rfl, Nat.zero_le _, h0⟩, ?_⟩
  rintro i m σ H ⟨rfl, hi, p⟩
  obtain ⟨qx, qy, qz⟩ := hq i σ H p
  by_cases hlt : i < xs.length
  · have hx : xs[i]? = some xs[i] := List.getElem?_eq_getElem hlt
    have hlt2 : i < ys.length := by omega
    have hlt3 : i < zs.length := by omega
    have hy : ys[i]? = some ys[i] := List.getElem?_eq_getElem hlt2
    have hz : zs[i]? = some zs[i] := List.getElem?_eq_getElem hlt3
    refine .inr ⟨⟨xs, ys, zs, _, _, _, qx, qy, qz, hx, hy, hz⟩, Pv (i + 1), fun σ' H' p' => ⟨xs.length - (i + 1), by omega, rfl, hlt, p'⟩, fun v H' y => ?_⟩
    obtain ⟨T, x', y', z', rfl, hT, rfl, f1, f2, f3⟩ := y
    exact hs i x' y' z' T σ H (f1 xs qx) (f2 ys qy) (f3 zs qz) p hT
  · have e : i = xs.length := by omega
    subst e
    exact .inl ⟨⟨xs, ys, zs, qx, qy, qz, Nat.le_refl _, by omega, by omega, .inl rfl⟩, hd σ H p⟩
end LB

set_option Elab.async false
set_option linter.all false
set_option maxRecDepth 100000
set_option maxHeartbeats 4000000
/-! amounts and rates as they are written; lengths of texts; any(list); rstrip -/
namespace LB
open PySem PySem.Spec PyProof.Rows L2
/-! ### lengths -/
structure LL (n : Nat) (z : Str) : Prop where
  le : z.length ≤ n
theorem LL.app {m n : Nat} {y z : Str} (a : LL m y) (b : LL n z) : LL (m + n) (y ++ z) := ⟨by rw [len_app]; have := a.le; have := b.le; omega⟩
theorem LL.emp : LL 0 Str.empty := ⟨Nat.le_refl 0⟩
theorem LL.mono {m n : Nat} {z : Str} (a : LL m z) (h : m ≤ n) : LL n z := ⟨Nat.le_trans a.le h⟩
theorem LL.sz {n : Nat} {z : Str} (a : LL n z) (h : n ≤ 10000000) : z.length ≤ sizeLine := by rw [sizeLine_eq]; have := a.le; omega
theorem LL.lit {n : Nat} {z : Str} (h : Nat.ble z.length n = true) : LL n z := ⟨Nat.le_of_ble_eq_true h⟩
theorem LL.int {i : Int} (h : -10000000000000000000000 < i ∧ i < 10000000000000000000000) : LL 601 (toString i : Str) := ⟨str_len1 (Sz.mk (n := 1900) (Nat.lt_of_lt_of_le (show i.natAbs < 2 ^ 80 by omega) (Nat.pow_le_pow_right (by decide) (by decide))))⟩
theorem log_ok {i : Int} (h : -10000000000000000000000 < i ∧ i < 10000000000000000000000) : i.natAbs.log2 < 1920 := Nat.lt_of_le_of_lt (Sz.log (n := 80) (Sz.mk (by omega))) (by decide)
theorem LL.opt {c : Prop} [Decidable c] {n : Nat} {y z : Str} (a : LL n y) (b : LL n z) : LL n (if c then y else z) := by
  split
  · exact a
  · exact b
theorem addL_go {m n : Nat} {H : Hp} {Q : VK} {z y : Str} (a : LL m z) (b : LL n y) (h : m + n ≤ 10000000) (q : Q (.str (z ++ y)) H) : rAddS (.str z) (.str y) H Q := addS_go (by rw [sizeLine_eq]; have := a.le; have := b.le; omega) q
/-! ### any(list), text.rstrip(chars) -/
@[irreducible] def rAnyL (K : PySem.W.Frag) : List V → Hp → VK → Prop := fun vs H Q => rAny K vs H Q
theorem call_any {X : Cx} (hc : X.calm = true) : CallR X (.builtin "any") (rAnyL X.K) := fun pins s σ H xs us Q I r h => cr_any hc pins s σ H xs us Q I r (by unfold rAnyL at h; exact h)
theorem any_go {K : PySem.W.Frag} {H : Hp} {a : Addr} {bs : List Bool} {Q : VK} (h : SqL K H a (bs.map V.bl)) (q : Q (.bl (bs.any id)) H) : rAnyL K [.ref a] H Q := by
  unfold rAnyL
  exact ⟨a, bs, rfl, h, q⟩
@[irreducible] def rRsC : V → List V → Hp → VK → Prop := fun x xs H Q => ∃ a b, x = .str a ∧ xs = [.str b] ∧ a.length ≤ sizeLine ∧ Q (.str (Txt.rstripChars a b)) H
theorem mt_rsC {X : Cx} : MtR X "str.rstrip" rRsC := fun pins s σ H x xs v us Q I rx rs h => mt_rstripChars pins s σ H x xs v us Q I rx rs (by unfold rRsC at h; exact h)
theorem rsC_go {H : Hp} {Q : VK} {a b : Str} (hl : a.length ≤ sizeLine) (q : Q (.str (Txt.rstripChars a b)) H) : rRsC (.str a) [.str b] H Q := by
  unfold rRsC
  exact ⟨a, b, rfl, rfl, hl, q⟩
/-! ### texts up to where brackets stand -/
theorem appA {a b c : Str} : a ++ b ++ c = a ++ (b ++ c) := str_ext (by rw [tl_app, tl_app, tl_app, tl_app, List.append_assoc])
theorem app_emp (x : Str) : x ++ Str.empty = x := str_ext (by rw [tl_app]; exact List.append_nil _)
/-! ### amounts -/
def twoT (r : Int) : Str := if ((toString r : Str).length : Nat) < 2 then "0" ++ (toString r : Str) else toString r
theorem two_spec0 : ∀ n : Nat, n < 100 → (intSpecTextOf "02d" ((n : Nat) : Int)).cps.toList = (twoT ((n : Nat) : Int)).cps.toList := by decide +kernel
theorem two_spec {r : Int} (h : 0 ≤ r ∧ r < 100) : intSpecTextOf "02d" r = twoT r := by
  obtain ⟨n, rfl⟩ : ∃ n : Nat, r = n := ⟨r.toNat, by omega⟩
  exact str_ext (two_spec0 n (by omega))
theorem two_len0 : ∀ n : Nat, n < 100 → (twoT ((n : Nat) : Int)).length = 2 := by decide +kernel
theorem two_len {r : Int} (h : 0 ≤ r ∧ r < 100) : (twoT r).length = 2 := by
  obtain ⟨n, rfl⟩ : ∃ n : Nat, r = n := ⟨r.toNat, by omega⟩
  exact two_len0 n (by omega)
def amtN (c : Int) : Str := (toString (c / 100) : Str) ++ "." ++ twoT (c % 100)
/-- an amount as it is written -/
@[irreducible] def amt (c : Int) : Str := if c < 0 then "-" ++ amtN (-c) else amtN c
theorem amt_pos {c : Int} (h : 0 ≤ c) : amt c = (toString (c / 100) : Str) ++ "." ++ twoT (c % 100) := by unfold amt; rw [if_neg (by omega)]; rfl
theorem amt_neg {c : Int} (h : c < 0) : amt c = "-" ++ amt (-c) := by
  unfold amt
  rw [if_pos h, if_neg (by omega)]
theorem amtN_len {c : Int} (h : 0 ≤ c ∧ c < 100000000000000000) : LL 610 (amtN c) := by
  unfold amtN
  exact (((LL.int (by omega)).app (LL.lit (n := 1) (by decide +kernel))).app ⟨Nat.le_of_eq (two_len (by omega))⟩).mono (by decide)
theorem amt_len {c : Int} (h : -100000000000000000 < c ∧ c < 100000000000000000) : LL 620 (amt c) := by
  unfold amt
  split
  · exact ((LL.lit (n := 1) (by decide +kernel)).app (amtN_len (by omega))).mono (by decide)
  · exact (amtN_len (by omega)).mono (by decide)
/-! ### rates -/
def stpL (l : List Nat) : List Nat := if l.getLast? = some 48 then l.dropLast else l
def stpR : List Nat → List Nat
  | a :: r => if a = 48 then r else a :: r
  | [] => []
theorem stp_rev (l : List Nat) : stpL l.reverse = (stpR l).reverse := by
  cases l with
  | nil => rfl
  | cons a r =>
    unfold stpL stpR
    rw [List.getLast?_reverse]
    show (if some a = some 48 then _ else _) = _
    by_cases c : a = 48
    · show _ = (if a = 48 then r else a :: r).reverse
      rw [if_pos (by rw [c]), if_pos c, List.reverse_cons, List.dropLast_concat]
    · show _ = (if a = 48 then r else a :: r).reverse
      rw [if_neg (fun q => c (Option.some.inj q)), if_neg c]
def itR : Nat → List Nat → List Nat
  | 0, l => l
  | n + 1, l => itR n (stpR l)
theorem itR_drop : ∀ (n : Nat) (l : List Nat), l.length ≤ n → itR n l = l.dropWhile (fun c => c == 48)
  | 0, [], _ => rfl
  | 0, _ :: _, h => by simp at h
  | n + 1, [], _ => by
    show itR n [] = _
    exact itR_drop n [] (by simp)
  | n + 1, a :: r, h => by
    show itR n (if a = 48 then r else a :: r) = _
    by_cases c : a = 48
    · rw [if_pos c, itR_drop n r (by simpa using h), List.dropWhile_cons_of_pos (by simp [c])]
    · rw [if_neg c, List.dropWhile_cons_of_neg (by simp [c])]
      have : ∀ m, itR m (a :: r) = a :: r := fun m => by
        induction m with
        | zero => rfl
        | succ m ih =>
          show itR m (if a = 48 then r else a :: r) = _
          rw [if_neg c]
          exact ih
      exact this n
theorem rstrip_tl {x y : Str} : (Txt.rstripChars x y).cps.toList = (x.cps.toList.reverse.dropWhile y.cps.contains).reverse := by
  unfold Txt.rstripChars
  rw [stripBy_eq]
  show (x.cps.extract 0 (x.length - (x.cps.toList.reverse.takeWhile y.cps.contains).length)).toList = _
  rw [Array.toList_extract]
  show ((x.cps.toList.drop 0).take _) = _
  rw [List.drop_zero]
  have : ∀ l : List Nat, l.dropWhile y.cps.contains = l.drop (l.takeWhile y.cps.contains).length := fun l => by
    induction l with
    | nil => rfl
    | cons a l ih =>
      by_cases c : y.cps.contains a = true
      · rw [List.takeWhile_cons_of_pos c, List.dropWhile_cons_of_pos c, List.length_cons, List.drop_succ_cons, ih]
      · rw [List.takeWhile_cons_of_neg c, List.dropWhile_cons_of_neg c]
        rfl
  rw [this, List.reverse_drop, List.reverse_reverse, List.length_reverse]
  rfl
/-- the last sign goes if it is a zero -/
def stp (z : Str) : Str := ⟨(stpL z.cps.toList).toArray⟩
theorem rstrip_stp {z : Str} (h : z.length = 4) : Txt.rstripChars z "0" = stp (stp (stp (stp z))) := by
  refine str_ext ?_
  rw [rstrip_tl]
  have k : ∀ l : List Nat, (l.reverse.dropWhile (("0" : Str).cps.contains)) = l.reverse.dropWhile (fun c => c == 48) := fun l => by
    congr 1
    funext c
    show (#[48] : Array Nat).contains c = (c == 48)
    by_cases e : c = 48
    · subst e; exact Array.contains_iff_mem.mpr (by simp)
    · rw [beq_eq_false_iff_ne.mpr e]
      show (#[48] : Array Nat).contains c = false
      rw [Bool.eq_false_iff]
      intro q
      have := Array.contains_iff_mem.mp q
      simp at this
      exact e this
  rw [k]
  have hz : z.cps.toList = z.cps.toList.reverse.reverse := (List.reverse_reverse _).symm
  have hl : z.cps.toList.reverse.length ≤ 4 := by rw [List.length_reverse]; exact Nat.le_of_eq h
  rw [← itR_drop 4 _ hl]
  show (itR 0 (stpR (stpR (stpR (stpR z.cps.toList.reverse))))).reverse = stpL (stpL (stpL (stpL z.cps.toList)))
  conv => rhs; rw [hz]
  rw [stp_rev, stp_rev, stp_rev, stp_rev]
  rfl
theorem spec4_tl {n : Nat} : (intSpecTextOf "04d" ((n : Nat) : Int)).cps.toList = List.replicate (4 - (dg n).length) 48 ++ dg n := by
  have e : ∃ f : PySem.Builtin.Float.FormatSpec, PySem.Builtin.Float.parseFormatSpec ("04d" : Str).cps.toList "int" 62 = .ok f ∧ f.fill = 48 ∧ f.align = 61 ∧ f.width = some 4 ∧ f.grouping = none ∧ f.sign = none := ⟨_, rfl, rfl, rfl, rfl, rfl, rfl⟩
  obtain ⟨f, hp, h1, h2, h3, h4, h5⟩ := e
  unfold intSpecTextOf
  rw [hp]
  dsimp only
  unfold intSpecText
  rw [Int.natAbs_natCast]
  have hd : ((Nat.toDigits 10 n).map fun c => (if (100 : Nat) == 88 then c.toUpper else c).toNat) = dg n := by
    unfold dg
    congr 1
  rw [decide_eq_false (by omega), hd]
  have hne : (dg n).isEmpty = false := by
    cases k : dg n with
    | nil =>
      have := dg_pos n
      rw [k] at this
      exact absurd this (by decide)
    | cons a r => rfl
  unfold intField'
  simp only [h1, h2, h3, h4, h5, hne]
  simp
  omega
theorem dw4 {n : Nat} (h : n < 10000) : dw 4 n = [48 + n / 1000, 48 + n / 100 % 10, 48 + n / 10 % 10, 48 + n % 10] := by
  show (((([] ++ [48 + n / 10 / 10 / 10 % 10]) ++ [48 + n / 10 / 10 % 10]) ++ [48 + n / 10 % 10]) ++ [48 + n % 10]) = _
  rw [show n / 10 / 10 / 10 % 10 = n / 1000 by omega, show n / 10 / 10 % 10 = n / 100 % 10 by omega]
  rfl
theorem dg5 {n : Nat} (h : n < 10000) : dg (10000 + n) = [49, 48 + n / 1000, 48 + n / 100 % 10, 48 + n / 10 % 10, 48 + n % 10] := by
  rw [dg_big (by omega), dg_big (n := (10000 + n) / 10) (by omega), dg_big (n := (10000 + n) / 10 / 10) (by omega), dg_big (n := (10000 + n) / 10 / 10 / 10) (by omega), show (10000 + n) / 10 / 10 / 10 / 10 = 1 by omega, dg_small (by decide)]
  rw [show (10000 + n) / 10 / 10 / 10 % 10 = n / 1000 by omega, show (10000 + n) / 10 / 10 % 10 = n / 100 % 10 by omega, show (10000 + n) / 10 % 10 = n / 10 % 10 by omega, show (10000 + n) % 10 = n % 10 by omega]
  rfl
theorem spec4 {r : Int} (h : 0 ≤ r ∧ r < 10000) : intSpecTextOf "04d" r = cutS (toString (10000 + r)) (some 1) none ∧ (intSpecTextOf "04d" r).length = 4 := by
  obtain ⟨n, rfl⟩ : ∃ n : Nat, r = n := ⟨r.toNat, by omega⟩
  have e1 := spec4_tl (n := n)
  rw [dg_pad 3 n (by omega)] at e1
  refine ⟨str_ext ?_, by rw [← len_list, e1, dw_len]⟩
  rw [e1]
  have e2 : (toString (10000 + ((n : Nat) : Int)) : Str).cps.toList = dg (10000 + n) := tl_nat (10000 + n)
  show _ = ((toString (10000 + ((n : Nat) : Int)) : Str).cps.toList.drop (HT.sIx (toString (10000 + ((n : Nat) : Int)) : Str).length 0 (some 1))).take _
  have l5 : (toString (10000 + ((n : Nat) : Int)) : Str).length = 5 := by
    rw [← len_list, e2, dg5 (by omega)]
    rfl
  rw [e2, l5, dg5 (by omega), dw4 (by omega)]
  rfl
/-- the digits behind the point -/
@[irreducible] def pctD (r : Int) : Str := Txt.rstripChars (intSpecTextOf "04d" (r % 10000)) "0"
theorem pctD_len {r : Int} : (pctD r).length ≤ 4 := by
  have h : 0 ≤ r % 10000 ∧ r % 10000 < 10000 := by omega
  unfold pctD
  rw [← len_list, rstrip_tl, List.length_reverse]
  refine Nat.le_trans (List.Sublist.length_le (List.dropWhile_sublist _)) ?_
  rw [List.length_reverse, len_list, (spec4 h).2]
  exact Nat.le_refl 4
theorem pctD_stp {r : Int} : pctD r = stp (stp (stp (stp (cutS (toString (10000 + r % 10000)) (some 1) none)))) := by
  have h : 0 ≤ r % 10000 ∧ r % 10000 < 10000 := by omega
  unfold pctD
  rw [rstrip_stp (spec4 h).2, (spec4 h).1]
/-- a rate as it is written -/
@[irreducible] def pct (r : Int) : Str := if pctD r = "" then (toString (r / 10000) : Str) ++ "pc" else (toString (r / 10000) : Str) ++ "." ++ pctD r ++ "pc"
theorem pct_e {r : Int} (h : pctD r = "") : pct r = (toString (r / 10000) : Str) ++ "pc" := by unfold pct; rw [if_pos h]
theorem pct_n {r : Int} (h : pctD r ≠ "") : pct r = (toString (r / 10000) : Str) ++ "." ++ pctD r ++ "pc" := by unfold pct; rw [if_neg h]
theorem pct_len {r : Int} (h : 0 ≤ r ∧ r ≤ 1000000) : LL 610 (pct r) := by
  unfold pct
  split
  · exact ((LL.int (by omega)).app (LL.lit (n := 2) (by decide +kernel))).mono (by decide)
  · exact ((((LL.int (by omega)).app (LL.lit (n := 1) (by decide +kernel))).app ⟨pctD_len⟩).app (LL.lit (n := 2) (by decide +kernel))).mono (by decide)
end LB

set_option Elab.async false
set_option linter.all false
set_option maxRecDepth 100000
set_option maxHeartbeats 4000000
/-! products as they are written -/
namespace LB
open PySem PySem.Spec PyProof.Rows L2
/-! ### values at one place of the terms -/
/-- equal at place j -/
def eqAt (t : TM) (os : List Str) (t' : TM) (os' : List Str) (j : Nat) : Bool := if j = 21 then eqL (os.map V.str) (os'.map V.str) else match t.vals[j]?, t'.vals[j]? with
  | some x, some y => eqV x y
  | _, _ => false
theorem neD_flat2 {K : PySem.W.Frag} {H : Hp} {Q : VK} {x y : V} (fx : flatS x = true) (fy : flatS y = true) (q : Q (.bl (!eqV x y)) H) : rNeD K x y H Q := by
  have h1 := lay_pd fx
  have h2 := lay_pd fy
  have sh1 : SeqAt.shaped (pd x) = true := by
    unfold SeqAt.shaped
    rw [h1.1, h1.2]
    rfl
  have sh2 : SeqAt.shaped (pd y) = true := by
    unfold SeqAt.shaped
    rw [h2.1, h2.2]
    rfl
  refine ⟨_, _, dp_pd fx, dp_pd fy, sh1, sh2, ?_⟩
  rw [eqv_pd fx fy]
  exact q
/-- the values at one place compared -/
theorem neD_pl {K : PySem.W.Frag} {H : Hp} {Q : VK} {t t' : TM} {os os' : List Str} {j : Nat} {z : Str} {v v' : V} (g : GoodT t) (g' : GoodT t') (ho : SqT K H t.ord (os.map V.str)) (ho' : SqT K H t'.ord (os'.map V.str)) (fo : os.all okS = true) (fo' : os'.all okS = true)
    (hz : keysL[j]? = some z) (hv : t.vals[j]? = some v) (hv' : t'.vals[j]? = some v') (q : Q (.bl (!eqAt t os t' os' j)) H) : rNeD K v v' H Q := by
  have f2 : (os.map V.str).all flatS = true := by rw [List.all_map]; exact fo
  have f2' : (os'.map V.str).all flatS = true := by rw [List.all_map]; exact fo'
  by_cases c : j = 21
  · subst c
    cases hv
    cases hv'
    exact neD_T ho ho' f2 f2' q
  · have fl : ∀ {t : TM} {v : V}, GoodT t → t.vals[j]? = some v → flatS v = true := fun {t v} g hv => by
      rcases kindsT g hz hv with ⟨s, rfl, ok⟩ | ⟨e, _⟩ | ⟨n, rfl, _⟩
      · exact ok
      · exact absurd e c
      · rfl
    refine neD_flat2 (fl g hv) (fl g' hv') ?_
    unfold eqAt at q
    rw [if_neg c, hv, hv'] at q
    exact q
/-- terms made with a name and a count alone -/
def plainT (nm : Str) (c : Int) (q : Addr) (pen : Int) : TM := ⟨nm, c, 1, 1, "", "none", "", 0, 0, 1000000, "actual/365", "near", "annuity", 0, 0, 0, 0, 0, 5, 0, 0, q, pen⟩
theorem plain_good {nm : Str} {c : Int} {q : Addr} {pen : Int} (h1 : nameB nm = true) (h2 : 1 ≤ c ∧ c ≤ 480) (h3 : 0 ≤ pen ∧ pen ≤ 1000000) : GoodT (plainT nm c q pen) :=
  { name := h1, count := h2, every := (by show isEveryT 1 = true; decide +kernel), due := (by show 1 ≤ (1 : Int) ∧ (1 : Int) ≤ 31; omega), cal := rfl, rule := List.mem_cons_self, index := rfl, rate := (by show (0 : Int) ≤ 0 ∧ (0 : Int) ≤ 1000000; omega), lowest := (by show (0 : Int) ≤ 0 ∧ (0 : Int) ≤ 1000000; omega), highest := (by show (0 : Int) ≤ 1000000 ∧ (1000000 : Int) ≤ 1000000; omega), conv := List.mem_cons_self, mode := (by show ("near" : Str) ∈ (["down", "up", "near", "even"] : List Str); decide +kernel), scheme := List.mem_cons_self, free := (by show (0 : Int) ≤ 0 ∧ (0 : Int) ≤ 479; omega), ofee := (by show (0 : Int) ≤ 0 ∧ (0 : Int) ≤ 1000000000000; omega), opart := (by show (0 : Int) ≤ 0 ∧ (0 : Int) ≤ 1000; omega), pfee := (by show (0 : Int) ≤ 0 ∧ (0 : Int) ≤ 1000000000000; omega), lfee := (by show (0 : Int) ≤ 0 ∧ (0 : Int) ≤ 1000000000000; omega), grace := (by show (0 : Int) ≤ 5 ∧ (5 : Int) ≤ 90; omega), epart := (by show (0 : Int) ≤ 0 ∧ (0 : Int) ≤ 1000; omega), emonths := (by show (0 : Int) ≤ 0 ∧ (0 : Int) ≤ 480; omega), pen := h3, free2 := (by show (0 : Int) < c; omega), bounds := (by show (0 : Int) ≤ 1000000; omega), late := fun z => absurd (show (0 : Int) < 0 from z) (by omega) }
theorem plain_ok {nm : Str} {c : Int} {q : Addr} {pen : Int} (h1 : nameB nm = true) (h2 : 1 ≤ c ∧ c ≤ 480) (h3 : 0 ≤ pen ∧ pen ≤ 1000000) : termErr (plainT nm c q pen) usualO = none := good_to (plain_good h1 h2 h3) (List.Perm.refl _)
theorem joinT_go {K : PySem.W.Frag} {H : Hp} {Q : VK} {a : Str} {p : Addr} {ys : List Str} (h : SqT K H p (ys.map V.str)) (hz : (ys.map (·.length)).sum + ys.length * a.length ≤ 16777216) (q : Q (.str (Txt.join a ys)) H) : rJoinS K (.str a) [.ref p] H Q := by
  unfold rJoinS
  exact ⟨a, p, ys, rfl, rfl, .inr h, hz, q⟩
section
variable {K : PySem.W.Frag} {a D : Addr} {g : TG} {tt : TT} {te : TE} {vs : List Nat} {σ : L2.St} {H1 : Hp} {Qd : Hp → Prop}
/-- [f x for x in a tuple] -/
theorem lc_mpT {xs : List V} (f : V → V) (hD : H1 D = none) (hl : SqT K H1 a xs) (hn : xs.length < sizeLine)
    (hs : ∀ (i : Nat) (x : V) (H : Hp) (N : Hp → Prop) (acc : List V), xs[i]? = some x → Same H1 H → H D = some (.lst acc) → acc.length < sizeLine → (∀ H', Same H1 H' → H' D = some (.lst (acc ++ [f x])) → N H') →
      g x (wipe σ vs) H fun σ2 H2 => wipe σ2 vs = wipe σ vs ∧ tt σ2 H2 fun b H3 => if b = true then te σ2 H3 fun y H4 => ∃ acc, H4 D = some (.lst acc) ∧ acc.length < sizeLine ∧ N (upd H4 D (.lst (acc ++ [y]))) else N H3)
    (hd : ∀ H', Same H1 H' → H' D = some (.lst (xs.map f)) → Qd H') :
    ∃ W : Nat → Nat → Hp → Prop, (∃ m, W 0 m (upd H1 D (.lst []))) ∧ ∀ i m H, W i m H →
      ((Itt K a).stop i H ∧ Qd H) ∨ ((Itt K a).go i H ∧ ∃ Nx : Hp → Prop, (∀ H', Nx H' → ∃ m', m' < m ∧ W (i + 1) m' H') ∧ ∀ x H', (Itt K a).yld i H x H' → g x (wipe σ vs) H' fun σ2 H2 => wipe σ2 vs = wipe σ vs ∧ tt σ2 H2 fun b H3 =>
        if b = true then te σ2 H3 fun y H4 => ∃ acc, H4 D = some (.lst acc) ∧ acc.length < sizeLine ∧ Nx (upd H4 D (.lst (acc ++ [y]))) else Nx H3) := by
  refine lc_tup (xs := xs) (fun i H => Same H1 H ∧ H D = some (.lst ((xs.take i).map f))) ⟨same_new (Same.refl _) hD, upd_same⟩ (fun i H _ e => same_tup e.1 hl) ?_ ?_
  · rintro i x H hx ⟨s, e⟩
    have ht : xs.take (i + 1) = xs.take i ++ [x] := by rw [List.take_add_one, hx]; rfl
    refine hs i x _ _ _ hx s e ?_ fun H' s' e' => ?_
    · rw [List.length_map, List.length_take]
      exact Nat.lt_of_le_of_lt (Nat.min_le_right _ _) hn
    · refine ⟨s', ?_⟩
      rw [ht, List.map_append]
      exact e'
  · rintro H ⟨s, e⟩
    rw [List.take_length] at e
    exact hd H s e
end
theorem plain_at {t : TM} {os : List Str} {nm : Str} {c : Int} {q : Addr} {j : Nat} : eqAt t os (plainT nm c q 0) usualO j = eqAt t os (plainT nm c 0 0) usualO j := by
  unfold eqAt
  by_cases h : j = 21
  · rw [if_pos h, if_pos h]
  · rw [if_neg h, if_neg h]
    have e : (plainT nm c q 0).vals = (plainT nm c 0 0).vals.set 21 (.ref q) := rfl
    rw [e, List.getElem?_set_ne (fun z => h z.symm)]
/-! ### the lines of the program -/
def S (i : Int) : Str := toString i
def payL (t : TM) : Str := if 0 < t.free then "payments " ++ S t.count ++ " " ++ t.scheme ++ " after " ++ S t.free else "payments " ++ S t.count ++ " " ++ t.scheme
def dueL (t : TM) : Str := if t.rule = "none" ∧ t.cal = "" then "due on " ++ S t.due else "due on " ++ S t.due ++ " " ++ t.rule ++ " " ++ t.cal
def rateL (t : TM) : Str := if t.index = "" then "rate " ++ pct t.rate else if t.lowest ≠ 0 ∨ t.highest ≠ 1000000 then "rate " ++ t.index ++ " plus " ++ pct t.rate ++ " from " ++ pct t.lowest ++ " to " ++ pct t.highest else "rate " ++ t.index ++ " plus " ++ pct t.rate
def openL (t : TM) : Str := if 0 < t.opart then "fees opening " ++ amt t.ofee ++ " and " ++ S t.opart else "fees opening " ++ amt t.ofee
def nmsP : List (List Str) := [["count"], ["every"], ["due_on", "rule", "calendar"], ["rate"], ["convention"], ["mode"], ["opening_fee", "opening_part"], ["period_fee"], ["late_fee", "grace"], ["early_part", "early_months"], ["order"], ["penalty"]]
def lnsP (t : TM) (os : List Str) : List Str := [payL t, "every " ++ S t.every ++ " months", dueL t, rateL t, "days " ++ t.conv, "round " ++ t.mode, openL t, "fees period " ++ amt t.pfee, "fees late " ++ amt t.lfee ++ " after " ++ S t.grace ++ " days", "fees early " ++ S t.epart ++ " within " ++ S t.emonths ++ " months", "use " ++ Txt.join ", " os, "penalty " ++ pct t.pen]
/-- is a field told? -/
def toldB (t : TM) (os : List Str) (z : Str) : Bool := z == "count" || z == "rate" || (List.range 23).any fun j => decide (keysL[j]? = some z) && !eqAt t os (plainT t.name t.count 0 0) usualO j
def someL (t : TM) (os : List Str) (p : List Str × Str) : Option Str := if p.1.any (toldB t os) = true then some ("  " ++ p.2 ++ ";") else none
theorem someL_pos {t : TM} {os : List Str} {ns : List Str} {line : Str} (h : ns.any (toldB t os) = true) : someL t os (ns, line) = some ("  " ++ line ++ ";") := if_pos h
theorem someL_neg {t : TM} {os : List Str} {ns : List Str} {line : Str} (h : ¬ ns.any (toldB t os) = true) : someL t os (ns, line) = none := if_neg h
def linesP (t : TM) (os : List Str) : List Str := (nmsP.zip (lnsP t os)).filterMap (someL t os)
def allLP (t : TM) (os : List Str) : List Str := ("product " ++ t.name ++ " {") :: (linesP t os ++ (["}"] : List Str))
@[irreducible] def prodP (t : TM) (os : List Str) : Str := Txt.join "\n" (allLP t os)
/-! ### the clauses of the laws -/
def rowPay (t : TM) : List Str := if 0 < t.free then ["payments", S t.count, t.scheme, "after", S t.free] else ["payments", S t.count, t.scheme]
def rowRate (w : Bool) (t : TM) : List Str := if t.index ≠ "" then (if w = true ∨ t.lowest ≠ 0 ∨ t.highest ≠ 1000000 then ["rate", t.index, "plus", pct t.rate, "from", pct t.lowest, "to", pct t.highest] else ["rate", t.index, "plus", pct t.rate]) else ["rate", pct t.rate]
def rowUse (os : List Str) : List Str := ["use", os.getD 0 "", ",", os.getD 1 "", ",", os.getD 2 ""]
def clW (w : Bool) (t : TM) (os : List Str) : List (Option (List Str)) :=
  [some (rowPay t),
   if w = true ∨ t.every ≠ 1 then some ["every", S t.every, "months"] else none,
   if t.cal ≠ "" then some ["due", "on", S t.due, t.rule, t.cal] else if w = true ∨ t.due ≠ 1 then some ["due", "on", S t.due] else none,
   some (rowRate w t),
   if w = true ∨ t.conv ≠ "actual/365" then some ["days", t.conv] else none,
   if w = true ∨ t.mode ≠ "near" then some ["round", t.mode] else none,
   if 0 < t.opart then some ["fees", "opening", amt t.ofee, "and", S t.opart] else if w = true ∨ t.ofee ≠ 0 then some ["fees", "opening", amt t.ofee] else none,
   if w = true ∨ t.pfee ≠ 0 then some ["fees", "period", amt t.pfee] else none,
   if w = true ∨ t.lfee ≠ 0 ∨ t.grace ≠ 5 then some ["fees", "late", amt t.lfee, "after", S t.grace, "days"] else none,
   if w = true ∨ t.epart ≠ 0 ∨ t.emonths ≠ 0 then some ["fees", "early", S t.epart, "within", S t.emonths, "months"] else none,
   if w = true ∨ os ≠ usualO then some (rowUse os) else none,
   if w = true ∨ t.pen ≠ 0 then some ["penalty", pct t.pen] else none]
def rowsN (w : Bool) (t : TM) (os : List Str) (k : Nat) : List (List Str) := ((clW w t os).take k).filterMap id
theorem rowsN_some {w : Bool} {t : TM} {os : List Str} {k : Nat} {row : List Str} (h : (clW w t os)[k]? = some (some row)) : rowsN w t os (k + 1) = rowsN w t os k ++ [row] := by
  unfold rowsN
  rw [List.take_add_one, h, Option.toList_some, List.filterMap_append]
  rfl
theorem rowsN_none {w : Bool} {t : TM} {os : List Str} {k : Nat} (h : (clW w t os)[k]? = some none) : rowsN w t os (k + 1) = rowsN w t os k := by
  unfold rowsN
  rw [List.take_add_one, h, Option.toList_some, List.filterMap_append]
  exact List.append_nil _
/-- a word behind the others -/
def addW (l w : Str) : Str := if w = "," then l ++ w else l ++ " " ++ w
def lineW (row : List Str) : Str := row.foldl addW " "
theorem addW_n {l w : Str} (h : w ≠ ",") : addW l w = l ++ (" " ++ w) := by unfold addW; rw [if_neg h, appA]
theorem addW_c {l : Str} : addW l "," = l ++ "," := by unfold addW; rw [if_pos rfl]
def rowL (row : List Str) : Str := lineW row ++ ";"
def allLW (t : TM) (os : List Str) : List Str := ("product " ++ t.name ++ " {") :: ((rowsN false t os 12).map rowL ++ (["}"] : List Str))
/-! ### words are no commas -/
theorem S_nc {i : Int} (h : 0 ≤ i) : S i ≠ "," := by
  obtain ⟨n, rfl⟩ : ∃ n : Nat, i = n := ⟨i.toNat, by omega⟩
  intro e
  have e1 : (S ((n : Nat) : Int)).cps.toList = dg n := tl_nat n
  rw [e] at e1
  have : (44 : Nat) ∈ dg n := by
    rw [← e1]
    show (44 : Nat) ∈ ("," : Str).cps.toList
    have : ("," : Str).cps.toList = [44] := by decide +kernel
    rw [this]
    exact List.mem_cons_self
  have := dg_dig n 44 this
  revert this
  decide
theorem nc_len {z : Str} (h : 2 ≤ z.length) : z ≠ "," := by
  intro e
  rw [e] at h
  exact absurd h (by decide +kernel)
theorem amt_nc {c : Int} (h : 0 ≤ c) : amt c ≠ "," := by
  refine nc_len ?_
  rw [amt_pos h, len_app, len_app, two_len (by omega)]
  omega
theorem pct_nc {r : Int} : pct r ≠ "," := by
  refine nc_len ?_
  have : ("pc" : Str).length = 2 := by decide +kernel
  by_cases c : pctD r = ""
  · rw [pct_e c, len_app]
    omega
  · rw [pct_n c, len_app]
    omega
theorem nm_nc {z : Str} (h : nameB z = true) : z ≠ "," := by
  intro e
  rw [e] at h
  revert h
  decide +kernel
theorem opt_nc {z : Str} (h : (z == "" || nameB z) = true) : z ≠ "," := by
  rcases Bool.or_eq_true_iff.mp h with e | e
  · rw [eq_of_beq e]; decide +kernel
  · exact nm_nc e
theorem in_nc {x : Str} {l : List Str} (h : x ∈ l) (k : l.all (fun z => !(z == ",")) = true) : x ≠ "," := by
  have := List.all_eq_true.mp k x h
  intro e
  rw [e] at this
  revert this
  decide +kernel

theorem lt0 : ("payments " : Str) = "payments" ++ (" ") := by decide +kernel
theorem lt1 : (" after " : Str) = " " ++ ("after" ++ (" ")) := by decide +kernel
theorem lt2 : ("every " : Str) = "every" ++ (" ") := by decide +kernel
theorem lt3 : (" months" : Str) = " " ++ ("months") := by decide +kernel
theorem lt4 : ("due on " : Str) = "due" ++ (" " ++ ("on" ++ (" "))) := by decide +kernel
theorem lt5 : ("rate " : Str) = "rate" ++ (" ") := by decide +kernel
theorem lt6 : (" plus " : Str) = " " ++ ("plus" ++ (" ")) := by decide +kernel
theorem lt7 : (" from " : Str) = " " ++ ("from" ++ (" ")) := by decide +kernel
theorem lt8 : (" to " : Str) = " " ++ ("to" ++ (" ")) := by decide +kernel
theorem lt9 : ("days " : Str) = "days" ++ (" ") := by decide +kernel
theorem lt10 : ("round " : Str) = "round" ++ (" ") := by decide +kernel
theorem lt11 : ("fees opening " : Str) = "fees" ++ (" " ++ ("opening" ++ (" "))) := by decide +kernel
theorem lt12 : (" and " : Str) = " " ++ ("and" ++ (" ")) := by decide +kernel
theorem lt13 : ("fees period " : Str) = "fees" ++ (" " ++ ("period" ++ (" "))) := by decide +kernel
theorem lt14 : ("fees late " : Str) = "fees" ++ (" " ++ ("late" ++ (" "))) := by decide +kernel
theorem lt15 : (" days" : Str) = " " ++ ("days") := by decide +kernel
theorem lt16 : ("fees early " : Str) = "fees" ++ (" " ++ ("early" ++ (" "))) := by decide +kernel
theorem lt17 : (" within " : Str) = " " ++ ("within" ++ (" ")) := by decide +kernel
theorem lt18 : ("use " : Str) = "use" ++ (" ") := by decide +kernel
theorem lt19 : (", " : Str) = "," ++ (" ") := by decide +kernel
theorem lt20 : ("penalty " : Str) = "penalty" ++ (" ") := by decide +kernel
theorem lt21 : ("  " : Str) = " " ++ (" ") := by decide +kernel
theorem toldB_key {t : TM} {os : List Str} {z : Str} {j : Nat} (hz : keysL[j]? = some z) : toldB t os z = (z == "count" || z == "rate" || !eqAt t os (plainT t.name t.count 0 0) usualO j) := by
  unfold toldB
  refine congrArg (fun b => z == "count" || z == "rate" || b) ?_
  rw [Bool.eq_iff_iff, List.any_eq_true]
  constructor
  · rintro ⟨i, hi, h⟩
    rw [Bool.and_eq_true, decide_eq_true_eq] at h
    have hj := (List.getElem?_eq_some_iff.mp hz).1
    have : i = j := by
      have h1 := h.1.trans hz.symm
      have hi2 : i < keysL.length := (List.getElem?_eq_some_iff.mp h.1).1
      exact (List.getElem?_inj hi2 keysL_nd).mp h1
    rw [← this]
    exact h.2
  · intro h
    have hj : j < 23 := (List.getElem?_eq_some_iff.mp hz).1
    exact ⟨j, List.mem_range.mpr hj, by rw [Bool.and_eq_true, decide_eq_true_eq]; exact ⟨hz, h⟩⟩
theorem told_int {t : TM} {os : List Str} {z : Str} {j : Nat} {a b : Int} (hz : keysL[j]? = some z) (hn : (z == "count" || z == "rate") = false) (h21 : j ≠ 21) (h1 : t.vals[j]? = some (.int a)) (h2 : (plainT t.name t.count 0 0).vals[j]? = some (.int b)) : toldB t os z = decide (a ≠ b) := by
  rw [toldB_key hz, hn, Bool.false_or]
  unfold eqAt
  rw [if_neg h21, h1, h2]
  show (!(a == b)) = _
  by_cases c : a = b
  · rw [c, beq_self_eq_true, decide_eq_false (fun q => q rfl)]; rfl
  · rw [beq_eq_false_iff_ne.mpr c, decide_eq_true c]; rfl
theorem told_str {t : TM} {os : List Str} {z : Str} {j : Nat} {a b : Str} (hz : keysL[j]? = some z) (hn : (z == "count" || z == "rate") = false) (h21 : j ≠ 21) (h1 : t.vals[j]? = some (.str a)) (h2 : (plainT t.name t.count 0 0).vals[j]? = some (.str b)) : toldB t os z = decide (a ≠ b) := by
  rw [toldB_key hz, hn, Bool.false_or]
  unfold eqAt
  rw [if_neg h21, h1, h2]
  show (!(a == b)) = _
  by_cases c : a = b
  · rw [c, beq_self_eq_true, decide_eq_false (fun q => q rfl)]; rfl
  · rw [beq_eq_false_iff_ne.mpr c, decide_eq_true c]; rfl
theorem eqL_strs : ∀ {a b : List Str}, eqL (a.map V.str) (b.map V.str) = decide (a = b)
  | [], [] => rfl
  | [], _ :: _ => rfl
  | _ :: _, [] => rfl
  | x :: xs, y :: ys => by
    show ((x == y) && eqL (xs.map V.str) (ys.map V.str)) = _
    rw [eqL_strs]
    by_cases c : x = y
    · rw [c, beq_self_eq_true, Bool.true_and]
      by_cases d : xs = ys
      · rw [decide_eq_true d, decide_eq_true (by rw [d])]
      · rw [decide_eq_false d, decide_eq_false (fun q => d (List.cons.inj q).2)]
    · rw [beq_eq_false_iff_ne.mpr c, Bool.false_and, decide_eq_false (fun q => c (List.cons.inj q).1)]
theorem told_ord {t : TM} {os : List Str} : toldB t os "order" = decide (os ≠ usualO) := by
  rw [toldB_key (j := 21) rfl]
  show (false || false || !(eqL (os.map V.str) (usualO.map V.str))) = _
  rw [eqL_strs, Bool.false_or, Bool.false_or]
  by_cases c : os = usualO
  · rw [decide_eq_true c, decide_eq_false (fun q => q c)]; rfl
  · rw [decide_eq_false c, decide_eq_true c]; rfl
theorem told_count {t : TM} {os : List Str} : toldB t os "count" = true := by rw [toldB_key (j := 1) rfl]; rfl
theorem told_rate {t : TM} {os : List Str} : toldB t os "rate" = true := by rw [toldB_key (j := 7) rfl]; rfl
theorem join3 {a b c : Str} : Txt.join ", " [a, b, c] = a ++ (", " ++ (b ++ (", " ++ c))) := by
  rw [TL.join_eq]
  show a ++ ", " ++ (b ++ ", " ++ c) = _
  rw [appA, appA]

theorem told_every {t : TM} {os : List Str} : toldB t os "every" = decide (t.every ≠ 1) := told_int (j := 2) rfl (by decide +kernel) (by decide) rfl rfl
theorem told_due_on {t : TM} {os : List Str} : toldB t os "due_on" = decide (t.due ≠ 1) := told_int (j := 3) rfl (by decide +kernel) (by decide) rfl rfl
theorem told_rule {t : TM} {os : List Str} : toldB t os "rule" = decide (t.rule ≠ "none") := told_str (j := 5) rfl (by decide +kernel) (by decide) rfl rfl
theorem told_calendar {t : TM} {os : List Str} : toldB t os "calendar" = decide (t.cal ≠ "") := told_str (j := 4) rfl (by decide +kernel) (by decide) rfl rfl
theorem told_convention {t : TM} {os : List Str} : toldB t os "convention" = decide (t.conv ≠ "actual/365") := told_str (j := 10) rfl (by decide +kernel) (by decide) rfl rfl
theorem told_mode {t : TM} {os : List Str} : toldB t os "mode" = decide (t.mode ≠ "near") := told_str (j := 11) rfl (by decide +kernel) (by decide) rfl rfl
theorem told_opening_fee {t : TM} {os : List Str} : toldB t os "opening_fee" = decide (t.ofee ≠ 0) := told_int (j := 14) rfl (by decide +kernel) (by decide) rfl rfl
theorem told_opening_part {t : TM} {os : List Str} : toldB t os "opening_part" = decide (t.opart ≠ 0) := told_int (j := 15) rfl (by decide +kernel) (by decide) rfl rfl
theorem told_period_fee {t : TM} {os : List Str} : toldB t os "period_fee" = decide (t.pfee ≠ 0) := told_int (j := 16) rfl (by decide +kernel) (by decide) rfl rfl
theorem told_late_fee {t : TM} {os : List Str} : toldB t os "late_fee" = decide (t.lfee ≠ 0) := told_int (j := 17) rfl (by decide +kernel) (by decide) rfl rfl
theorem told_grace {t : TM} {os : List Str} : toldB t os "grace" = decide (t.grace ≠ 5) := told_int (j := 18) rfl (by decide +kernel) (by decide) rfl rfl
theorem told_early_part {t : TM} {os : List Str} : toldB t os "early_part" = decide (t.epart ≠ 0) := told_int (j := 19) rfl (by decide +kernel) (by decide) rfl rfl
theorem told_early_months {t : TM} {os : List Str} : toldB t os "early_months" = decide (t.emonths ≠ 0) := told_int (j := 20) rfl (by decide +kernel) (by decide) rfl rfl
theorem told_penalty {t : TM} {os : List Str} : toldB t os "penalty" = decide (t.pen ≠ 0) := told_int (j := 22) rfl (by decide +kernel) (by decide) rfl rfl
theorem cl0 {t : TM} {os : List Str} (g : GoodT t) (hcr : t.cal = "" → t.rule = "none") (ho : os.Perm usualO) : someL t os (["count"], payL t) = ((clW false t os)[0]?.getD none).map rowL := by
  have g1 := g.count
  have g2 := every_bd g.every
  have g3 := g.due
  have g4 := g.free
  have g5 := g.ofee
  have g6 := g.opart
  have g7 := g.pfee
  have g8 := g.lfee
  have g9 := g.grace
  have g10 := g.epart
  have g11 := g.emonths
  have hrule := in_nc g.rule (by decide +kernel)
  have hconv := in_nc g.conv (by decide +kernel)
  have hmode := in_nc g.mode (by decide +kernel)
  have hsch := in_nc g.scheme (by decide +kernel)
  have hcal := opt_nc g.cal
  have hidx := opt_nc g.index
  rw [someL_pos (by show (toldB t os "count" || false) = true; rw [told_count]; rfl)]
  show some _ = some (rowL (rowPay t))
  refine congrArg some ?_
  unfold payL rowPay
  split
  · unfold rowL lineW
    simp only [List.foldl_cons, List.foldl_nil]
    rw [addW_n (w := "payments") (by decide +kernel), addW_n (w := (S t.count)) (S_nc (by omega)), addW_n (w := t.scheme) (hsch), addW_n (w := "after") (by decide +kernel), addW_n (w := (S t.free)) (S_nc (by omega))]
    simp only [appA, lt0, lt1, lt2, lt3, lt4, lt5, lt6, lt7, lt8, lt9, lt10, lt11, lt12, lt13, lt14, lt15, lt16, lt17, lt18, lt19, lt20, lt21]
  · unfold rowL lineW
    simp only [List.foldl_cons, List.foldl_nil]
    rw [addW_n (w := "payments") (by decide +kernel), addW_n (w := (S t.count)) (S_nc (by omega)), addW_n (w := t.scheme) (hsch)]
    simp only [appA, lt0, lt1, lt2, lt3, lt4, lt5, lt6, lt7, lt8, lt9, lt10, lt11, lt12, lt13, lt14, lt15, lt16, lt17, lt18, lt19, lt20, lt21]
theorem cl1 {t : TM} {os : List Str} (g : GoodT t) (hcr : t.cal = "" → t.rule = "none") (ho : os.Perm usualO) : someL t os (["every"], "every " ++ S t.every ++ " months") = ((clW false t os)[1]?.getD none).map rowL := by
  have g1 := g.count
  have g2 := every_bd g.every
  have g3 := g.due
  have g4 := g.free
  have g5 := g.ofee
  have g6 := g.opart
  have g7 := g.pfee
  have g8 := g.lfee
  have g9 := g.grace
  have g10 := g.epart
  have g11 := g.emonths
  have hrule := in_nc g.rule (by decide +kernel)
  have hconv := in_nc g.conv (by decide +kernel)
  have hmode := in_nc g.mode (by decide +kernel)
  have hsch := in_nc g.scheme (by decide +kernel)
  have hcal := opt_nc g.cal
  have hidx := opt_nc g.index
  have hc : ((["every"] : List Str).any (toldB t os) = true) ↔ (t.every ≠ 1) := by
    show ((toldB t os "every" || false) = true) ↔ (t.every ≠ 1)
    rw [told_every]
    simp
  by_cases c : t.every ≠ 1
  · rw [someL_pos (hc.mpr c)]
    show some _ = (if false = true ∨ t.every ≠ 1 then some (["every", S t.every, "months"] : List Str) else none).map rowL
    rw [if_pos (.inr c)]
    show some _ = some _
    refine congrArg some ?_
    unfold rowL lineW
    simp only [List.foldl_cons, List.foldl_nil]
    rw [addW_n (w := "every") (by decide +kernel), addW_n (w := (S t.every)) (S_nc (by omega)), addW_n (w := "months") (by decide +kernel)]
    simp only [appA, lt0, lt1, lt2, lt3, lt4, lt5, lt6, lt7, lt8, lt9, lt10, lt11, lt12, lt13, lt14, lt15, lt16, lt17, lt18, lt19, lt20, lt21]
  · rw [someL_neg (fun q => c (hc.mp q))]
    show none = (if false = true ∨ t.every ≠ 1 then some (["every", S t.every, "months"] : List Str) else none).map rowL
    rw [if_neg (fun q => q.elim (fun z => absurd z (by decide)) c)]
    rfl
theorem cl2 {t : TM} {os : List Str} (g : GoodT t) (hcr : t.cal = "" → t.rule = "none") (ho : os.Perm usualO) : someL t os (["due_on", "rule", "calendar"], dueL t) = ((clW false t os)[2]?.getD none).map rowL := by
  have g1 := g.count
  have g2 := every_bd g.every
  have g3 := g.due
  have g4 := g.free
  have g5 := g.ofee
  have g6 := g.opart
  have g7 := g.pfee
  have g8 := g.lfee
  have g9 := g.grace
  have g10 := g.epart
  have g11 := g.emonths
  have hrule := in_nc g.rule (by decide +kernel)
  have hconv := in_nc g.conv (by decide +kernel)
  have hmode := in_nc g.mode (by decide +kernel)
  have hsch := in_nc g.scheme (by decide +kernel)
  have hcal := opt_nc g.cal
  have hidx := opt_nc g.index
  have hc : ((["due_on", "rule", "calendar"] : List Str).any (toldB t os) = true) ↔ (t.cal ≠ "" ∨ t.due ≠ 1) := by
    show ((toldB t os "due_on" || (toldB t os "rule" || (toldB t os "calendar" || false))) = true) ↔ (t.cal ≠ "" ∨ t.due ≠ 1)
    rw [told_due_on, told_rule, told_calendar]
    simp
    constructor
    · rintro (h | h | h)
      · exact .inr h
      · exact .inl fun q => h (hcr q)
      · exact .inl h
    · rintro (h | h)
      · exact .inr (.inr h)
      · exact .inl h
  by_cases d : t.cal ≠ ""
  · rw [someL_pos (hc.mpr (.inl d))]
    show some _ = (if t.cal ≠ "" then some (["due", "on", S t.due, t.rule, t.cal] : List Str) else _).map rowL
    rw [if_pos d]
    show some _ = some _
    refine congrArg some ?_
    unfold dueL
    rw [if_neg (fun q => d q.2)]
    unfold rowL lineW
    simp only [List.foldl_cons, List.foldl_nil]
    rw [addW_n (w := "due") (by decide +kernel), addW_n (w := "on") (by decide +kernel), addW_n (w := (S t.due)) (S_nc (by omega)), addW_n (w := t.rule) (hrule), addW_n (w := t.cal) (hcal)]
    simp only [appA, lt0, lt1, lt2, lt3, lt4, lt5, lt6, lt7, lt8, lt9, lt10, lt11, lt12, lt13, lt14, lt15, lt16, lt17, lt18, lt19, lt20, lt21]
  · have d2 : t.cal = "" := Decidable.not_not.mp d
    by_cases c : t.due ≠ 1
    · rw [someL_pos (hc.mpr (.inr c))]
      show some _ = (if t.cal ≠ "" then _ else if false = true ∨ t.due ≠ 1 then some (["due", "on", S t.due] : List Str) else none).map rowL
      rw [if_neg d, if_pos (.inr c)]
      show some _ = some _
      refine congrArg some ?_
      unfold dueL
      rw [if_pos ⟨hcr d2, d2⟩]
      unfold rowL lineW
      simp only [List.foldl_cons, List.foldl_nil]
      rw [addW_n (w := "due") (by decide +kernel), addW_n (w := "on") (by decide +kernel), addW_n (w := (S t.due)) (S_nc (by omega))]
      simp only [appA, lt0, lt1, lt2, lt3, lt4, lt5, lt6, lt7, lt8, lt9, lt10, lt11, lt12, lt13, lt14, lt15, lt16, lt17, lt18, lt19, lt20, lt21]
    · rw [someL_neg (fun q => (hc.mp q).elim d c)]
      show none = (if t.cal ≠ "" then _ else if false = true ∨ t.due ≠ 1 then some (["due", "on", S t.due] : List Str) else none).map rowL
      rw [if_neg d, if_neg (fun q => q.elim (fun z => absurd z (by decide)) c)]
      rfl
theorem cl3 {t : TM} {os : List Str} (g : GoodT t) (hcr : t.cal = "" → t.rule = "none") (ho : os.Perm usualO) : someL t os (["rate"], rateL t) = ((clW false t os)[3]?.getD none).map rowL := by
  have g1 := g.count
  have g2 := every_bd g.every
  have g3 := g.due
  have g4 := g.free
  have g5 := g.ofee
  have g6 := g.opart
  have g7 := g.pfee
  have g8 := g.lfee
  have g9 := g.grace
  have g10 := g.epart
  have g11 := g.emonths
  have hrule := in_nc g.rule (by decide +kernel)
  have hconv := in_nc g.conv (by decide +kernel)
  have hmode := in_nc g.mode (by decide +kernel)
  have hsch := in_nc g.scheme (by decide +kernel)
  have hcal := opt_nc g.cal
  have hidx := opt_nc g.index
  rw [someL_pos (by show (toldB t os "rate" || false) = true; rw [told_rate]; rfl)]
  show some _ = some (rowL (rowRate false t))
  refine congrArg some ?_
  unfold rateL rowRate
  by_cases d : t.index = ""
  · rw [if_pos d, if_neg (fun q => q d)]
    unfold rowL lineW
    simp only [List.foldl_cons, List.foldl_nil]
    rw [addW_n (w := "rate") (by decide +kernel), addW_n (w := (pct t.rate)) (pct_nc)]
    simp only [appA, lt0, lt1, lt2, lt3, lt4, lt5, lt6, lt7, lt8, lt9, lt10, lt11, lt12, lt13, lt14, lt15, lt16, lt17, lt18, lt19, lt20, lt21]
  · rw [if_neg d, if_pos d]
    by_cases c : t.lowest ≠ 0 ∨ t.highest ≠ 1000000
    · rw [if_pos c, if_pos (.inr c)]
      unfold rowL lineW
      simp only [List.foldl_cons, List.foldl_nil]
      rw [addW_n (w := "rate") (by decide +kernel), addW_n (w := t.index) (hidx), addW_n (w := "plus") (by decide +kernel), addW_n (w := (pct t.rate)) (pct_nc), addW_n (w := "from") (by decide +kernel), addW_n (w := (pct t.lowest)) (pct_nc), addW_n (w := "to") (by decide +kernel), addW_n (w := (pct t.highest)) (pct_nc)]
      simp only [appA, lt0, lt1, lt2, lt3, lt4, lt5, lt6, lt7, lt8, lt9, lt10, lt11, lt12, lt13, lt14, lt15, lt16, lt17, lt18, lt19, lt20, lt21]
    · rw [if_neg c, if_neg (fun q => q.elim (fun z => absurd z (by decide)) c)]
      unfold rowL lineW
      simp only [List.foldl_cons, List.foldl_nil]
      rw [addW_n (w := "rate") (by decide +kernel), addW_n (w := t.index) (hidx), addW_n (w := "plus") (by decide +kernel), addW_n (w := (pct t.rate)) (pct_nc)]
      simp only [appA, lt0, lt1, lt2, lt3, lt4, lt5, lt6, lt7, lt8, lt9, lt10, lt11, lt12, lt13, lt14, lt15, lt16, lt17, lt18, lt19, lt20, lt21]
theorem cl4 {t : TM} {os : List Str} (g : GoodT t) (hcr : t.cal = "" → t.rule = "none") (ho : os.Perm usualO) : someL t os (["convention"], "days " ++ t.conv) = ((clW false t os)[4]?.getD none).map rowL := by
  have g1 := g.count
  have g2 := every_bd g.every
  have g3 := g.due
  have g4 := g.free
  have g5 := g.ofee
  have g6 := g.opart
  have g7 := g.pfee
  have g8 := g.lfee
  have g9 := g.grace
  have g10 := g.epart
  have g11 := g.emonths
  have hrule := in_nc g.rule (by decide +kernel)
  have hconv := in_nc g.conv (by decide +kernel)
  have hmode := in_nc g.mode (by decide +kernel)
  have hsch := in_nc g.scheme (by decide +kernel)
  have hcal := opt_nc g.cal
  have hidx := opt_nc g.index
  have hc : ((["convention"] : List Str).any (toldB t os) = true) ↔ (t.conv ≠ "actual/365") := by
    show ((toldB t os "convention" || false) = true) ↔ (t.conv ≠ "actual/365")
    rw [told_convention]
    simp
  by_cases c : t.conv ≠ "actual/365"
  · rw [someL_pos (hc.mpr c)]
    show some _ = (if false = true ∨ t.conv ≠ "actual/365" then some (["days", t.conv] : List Str) else none).map rowL
    rw [if_pos (.inr c)]
    show some _ = some _
    refine congrArg some ?_
    unfold rowL lineW
    simp only [List.foldl_cons, List.foldl_nil]
    rw [addW_n (w := "days") (by decide +kernel), addW_n (w := t.conv) (hconv)]
    simp only [appA, lt0, lt1, lt2, lt3, lt4, lt5, lt6, lt7, lt8, lt9, lt10, lt11, lt12, lt13, lt14, lt15, lt16, lt17, lt18, lt19, lt20, lt21]
  · rw [someL_neg (fun q => c (hc.mp q))]
    show none = (if false = true ∨ t.conv ≠ "actual/365" then some (["days", t.conv] : List Str) else none).map rowL
    rw [if_neg (fun q => q.elim (fun z => absurd z (by decide)) c)]
    rfl
theorem cl5 {t : TM} {os : List Str} (g : GoodT t) (hcr : t.cal = "" → t.rule = "none") (ho : os.Perm usualO) : someL t os (["mode"], "round " ++ t.mode) = ((clW false t os)[5]?.getD none).map rowL := by
  have g1 := g.count
  have g2 := every_bd g.every
  have g3 := g.due
  have g4 := g.free
  have g5 := g.ofee
  have g6 := g.opart
  have g7 := g.pfee
  have g8 := g.lfee
  have g9 := g.grace
  have g10 := g.epart
  have g11 := g.emonths
  have hrule := in_nc g.rule (by decide +kernel)
  have hconv := in_nc g.conv (by decide +kernel)
  have hmode := in_nc g.mode (by decide +kernel)
  have hsch := in_nc g.scheme (by decide +kernel)
  have hcal := opt_nc g.cal
  have hidx := opt_nc g.index
  have hc : ((["mode"] : List Str).any (toldB t os) = true) ↔ (t.mode ≠ "near") := by
    show ((toldB t os "mode" || false) = true) ↔ (t.mode ≠ "near")
    rw [told_mode]
    simp
  by_cases c : t.mode ≠ "near"
  · rw [someL_pos (hc.mpr c)]
    show some _ = (if false = true ∨ t.mode ≠ "near" then some (["round", t.mode] : List Str) else none).map rowL
    rw [if_pos (.inr c)]
    show some _ = some _
    refine congrArg some ?_
    unfold rowL lineW
    simp only [List.foldl_cons, List.foldl_nil]
    rw [addW_n (w := "round") (by decide +kernel), addW_n (w := t.mode) (hmode)]
    simp only [appA, lt0, lt1, lt2, lt3, lt4, lt5, lt6, lt7, lt8, lt9, lt10, lt11, lt12, lt13, lt14, lt15, lt16, lt17, lt18, lt19, lt20, lt21]
  · rw [someL_neg (fun q => c (hc.mp q))]
    show none = (if false = true ∨ t.mode ≠ "near" then some (["round", t.mode] : List Str) else none).map rowL
    rw [if_neg (fun q => q.elim (fun z => absurd z (by decide)) c)]
    rfl
theorem cl6 {t : TM} {os : List Str} (g : GoodT t) (hcr : t.cal = "" → t.rule = "none") (ho : os.Perm usualO) : someL t os (["opening_fee", "opening_part"], openL t) = ((clW false t os)[6]?.getD none).map rowL := by
  have g1 := g.count
  have g2 := every_bd g.every
  have g3 := g.due
  have g4 := g.free
  have g5 := g.ofee
  have g6 := g.opart
  have g7 := g.pfee
  have g8 := g.lfee
  have g9 := g.grace
  have g10 := g.epart
  have g11 := g.emonths
  have hrule := in_nc g.rule (by decide +kernel)
  have hconv := in_nc g.conv (by decide +kernel)
  have hmode := in_nc g.mode (by decide +kernel)
  have hsch := in_nc g.scheme (by decide +kernel)
  have hcal := opt_nc g.cal
  have hidx := opt_nc g.index
  have hc : ((["opening_fee", "opening_part"] : List Str).any (toldB t os) = true) ↔ (0 < t.opart ∨ t.ofee ≠ 0) := by
    show ((toldB t os "opening_fee" || (toldB t os "opening_part" || false)) = true) ↔ (0 < t.opart ∨ t.ofee ≠ 0)
    rw [told_opening_fee, told_opening_part]
    simp
    omega
  by_cases d : 0 < t.opart
  · rw [someL_pos (hc.mpr (.inl d))]
    show some _ = (if 0 < t.opart then some (["fees", "opening", amt t.ofee, "and", S t.opart] : List Str) else _).map rowL
    rw [if_pos d]
    show some _ = some _
    refine congrArg some ?_
    unfold openL
    rw [if_pos d]
    unfold rowL lineW
    simp only [List.foldl_cons, List.foldl_nil]
    rw [addW_n (w := "fees") (by decide +kernel), addW_n (w := "opening") (by decide +kernel), addW_n (w := (amt t.ofee)) (amt_nc (by omega)), addW_n (w := "and") (by decide +kernel), addW_n (w := (S t.opart)) (S_nc (by omega))]
    simp only [appA, lt0, lt1, lt2, lt3, lt4, lt5, lt6, lt7, lt8, lt9, lt10, lt11, lt12, lt13, lt14, lt15, lt16, lt17, lt18, lt19, lt20, lt21]
  · by_cases c : t.ofee ≠ 0
    · rw [someL_pos (hc.mpr (.inr c))]
      show some _ = (if 0 < t.opart then _ else if false = true ∨ t.ofee ≠ 0 then some (["fees", "opening", amt t.ofee] : List Str) else none).map rowL
      rw [if_neg d, if_pos (.inr c)]
      show some _ = some _
      refine congrArg some ?_
      unfold openL
      rw [if_neg d]
      unfold rowL lineW
      simp only [List.foldl_cons, List.foldl_nil]
      rw [addW_n (w := "fees") (by decide +kernel), addW_n (w := "opening") (by decide +kernel), addW_n (w := (amt t.ofee)) (amt_nc (by omega))]
      simp only [appA, lt0, lt1, lt2, lt3, lt4, lt5, lt6, lt7, lt8, lt9, lt10, lt11, lt12, lt13, lt14, lt15, lt16, lt17, lt18, lt19, lt20, lt21]
    · rw [someL_neg (fun q => (hc.mp q).elim d c)]
      show none = (if 0 < t.opart then _ else if false = true ∨ t.ofee ≠ 0 then some (["fees", "opening", amt t.ofee] : List Str) else none).map rowL
      rw [if_neg d, if_neg (fun q => q.elim (fun z => absurd z (by decide)) c)]
      rfl
theorem cl7 {t : TM} {os : List Str} (g : GoodT t) (hcr : t.cal = "" → t.rule = "none") (ho : os.Perm usualO) : someL t os (["period_fee"], "fees period " ++ amt t.pfee) = ((clW false t os)[7]?.getD none).map rowL := by
  have g1 := g.count
  have g2 := every_bd g.every
  have g3 := g.due
  have g4 := g.free
  have g5 := g.ofee
  have g6 := g.opart
  have g7 := g.pfee
  have g8 := g.lfee
  have g9 := g.grace
  have g10 := g.epart
  have g11 := g.emonths
  have hrule := in_nc g.rule (by decide +kernel)
  have hconv := in_nc g.conv (by decide +kernel)
  have hmode := in_nc g.mode (by decide +kernel)
  have hsch := in_nc g.scheme (by decide +kernel)
  have hcal := opt_nc g.cal
  have hidx := opt_nc g.index
  have hc : ((["period_fee"] : List Str).any (toldB t os) = true) ↔ (t.pfee ≠ 0) := by
    show ((toldB t os "period_fee" || false) = true) ↔ (t.pfee ≠ 0)
    rw [told_period_fee]
    simp
  by_cases c : t.pfee ≠ 0
  · rw [someL_pos (hc.mpr c)]
    show some _ = (if false = true ∨ t.pfee ≠ 0 then some (["fees", "period", amt t.pfee] : List Str) else none).map rowL
    rw [if_pos (.inr c)]
    show some _ = some _
    refine congrArg some ?_
    unfold rowL lineW
    simp only [List.foldl_cons, List.foldl_nil]
    rw [addW_n (w := "fees") (by decide +kernel), addW_n (w := "period") (by decide +kernel), addW_n (w := (amt t.pfee)) (amt_nc (by omega))]
    simp only [appA, lt0, lt1, lt2, lt3, lt4, lt5, lt6, lt7, lt8, lt9, lt10, lt11, lt12, lt13, lt14, lt15, lt16, lt17, lt18, lt19, lt20, lt21]
  · rw [someL_neg (fun q => c (hc.mp q))]
    show none = (if false = true ∨ t.pfee ≠ 0 then some (["fees", "period", amt t.pfee] : List Str) else none).map rowL
    rw [if_neg (fun q => q.elim (fun z => absurd z (by decide)) c)]
    rfl
theorem cl8 {t : TM} {os : List Str} (g : GoodT t) (hcr : t.cal = "" → t.rule = "none") (ho : os.Perm usualO) : someL t os (["late_fee", "grace"], "fees late " ++ amt t.lfee ++ " after " ++ S t.grace ++ " days") = ((clW false t os)[8]?.getD none).map rowL := by
  have g1 := g.count
  have g2 := every_bd g.every
  have g3 := g.due
  have g4 := g.free
  have g5 := g.ofee
  have g6 := g.opart
  have g7 := g.pfee
  have g8 := g.lfee
  have g9 := g.grace
  have g10 := g.epart
  have g11 := g.emonths
  have hrule := in_nc g.rule (by decide +kernel)
  have hconv := in_nc g.conv (by decide +kernel)
  have hmode := in_nc g.mode (by decide +kernel)
  have hsch := in_nc g.scheme (by decide +kernel)
  have hcal := opt_nc g.cal
  have hidx := opt_nc g.index
  have hc : ((["late_fee", "grace"] : List Str).any (toldB t os) = true) ↔ (t.lfee ≠ 0 ∨ t.grace ≠ 5) := by
    show ((toldB t os "late_fee" || (toldB t os "grace" || false)) = true) ↔ (t.lfee ≠ 0 ∨ t.grace ≠ 5)
    rw [told_late_fee, told_grace]
    simp
  by_cases c : t.lfee ≠ 0 ∨ t.grace ≠ 5
  · rw [someL_pos (hc.mpr c)]
    show some _ = (if false = true ∨ t.lfee ≠ 0 ∨ t.grace ≠ 5 then some (["fees", "late", amt t.lfee, "after", S t.grace, "days"] : List Str) else none).map rowL
    rw [if_pos (.inr c)]
    show some _ = some _
    refine congrArg some ?_
    unfold rowL lineW
    simp only [List.foldl_cons, List.foldl_nil]
    rw [addW_n (w := "fees") (by decide +kernel), addW_n (w := "late") (by decide +kernel), addW_n (w := (amt t.lfee)) (amt_nc (by omega)), addW_n (w := "after") (by decide +kernel), addW_n (w := (S t.grace)) (S_nc (by omega)), addW_n (w := "days") (by decide +kernel)]
    simp only [appA, lt0, lt1, lt2, lt3, lt4, lt5, lt6, lt7, lt8, lt9, lt10, lt11, lt12, lt13, lt14, lt15, lt16, lt17, lt18, lt19, lt20, lt21]
  · rw [someL_neg (fun q => c (hc.mp q))]
    show none = (if false = true ∨ t.lfee ≠ 0 ∨ t.grace ≠ 5 then some (["fees", "late", amt t.lfee, "after", S t.grace, "days"] : List Str) else none).map rowL
    rw [if_neg (fun q => q.elim (fun z => absurd z (by decide)) c)]
    rfl
theorem cl9 {t : TM} {os : List Str} (g : GoodT t) (hcr : t.cal = "" → t.rule = "none") (ho : os.Perm usualO) : someL t os (["early_part", "early_months"], "fees early " ++ S t.epart ++ " within " ++ S t.emonths ++ " months") = ((clW false t os)[9]?.getD none).map rowL := by
  have g1 := g.count
  have g2 := every_bd g.every
  have g3 := g.due
  have g4 := g.free
  have g5 := g.ofee
  have g6 := g.opart
  have g7 := g.pfee
  have g8 := g.lfee
  have g9 := g.grace
  have g10 := g.epart
  have g11 := g.emonths
  have hrule := in_nc g.rule (by decide +kernel)
  have hconv := in_nc g.conv (by decide +kernel)
  have hmode := in_nc g.mode (by decide +kernel)
  have hsch := in_nc g.scheme (by decide +kernel)
  have hcal := opt_nc g.cal
  have hidx := opt_nc g.index
  have hc : ((["early_part", "early_months"] : List Str).any (toldB t os) = true) ↔ (t.epart ≠ 0 ∨ t.emonths ≠ 0) := by
    show ((toldB t os "early_part" || (toldB t os "early_months" || false)) = true) ↔ (t.epart ≠ 0 ∨ t.emonths ≠ 0)
    rw [told_early_part, told_early_months]
    simp
  by_cases c : t.epart ≠ 0 ∨ t.emonths ≠ 0
  · rw [someL_pos (hc.mpr c)]
    show some _ = (if false = true ∨ t.epart ≠ 0 ∨ t.emonths ≠ 0 then some (["fees", "early", S t.epart, "within", S t.emonths, "months"] : List Str) else none).map rowL
    rw [if_pos (.inr c)]
    show some _ = some _
    refine congrArg some ?_
    unfold rowL lineW
    simp only [List.foldl_cons, List.foldl_nil]
    rw [addW_n (w := "fees") (by decide +kernel), addW_n (w := "early") (by decide +kernel), addW_n (w := (S t.epart)) (S_nc (by omega)), addW_n (w := "within") (by decide +kernel), addW_n (w := (S t.emonths)) (S_nc (by omega)), addW_n (w := "months") (by decide +kernel)]
    simp only [appA, lt0, lt1, lt2, lt3, lt4, lt5, lt6, lt7, lt8, lt9, lt10, lt11, lt12, lt13, lt14, lt15, lt16, lt17, lt18, lt19, lt20, lt21]
  · rw [someL_neg (fun q => c (hc.mp q))]
    show none = (if false = true ∨ t.epart ≠ 0 ∨ t.emonths ≠ 0 then some (["fees", "early", S t.epart, "within", S t.emonths, "months"] : List Str) else none).map rowL
    rw [if_neg (fun q => q.elim (fun z => absurd z (by decide)) c)]
    rfl
theorem cl10 {t : TM} {os : List Str} (g : GoodT t) (hcr : t.cal = "" → t.rule = "none") (ho : os.Perm usualO) : someL t os (["order"], "use " ++ Txt.join ", " os) = ((clW false t os)[10]?.getD none).map rowL := by
  have g1 := g.count
  have g2 := every_bd g.every
  have g3 := g.due
  have g4 := g.free
  have g5 := g.ofee
  have g6 := g.opart
  have g7 := g.pfee
  have g8 := g.lfee
  have g9 := g.grace
  have g10 := g.epart
  have g11 := g.emonths
  have hrule := in_nc g.rule (by decide +kernel)
  have hconv := in_nc g.conv (by decide +kernel)
  have hmode := in_nc g.mode (by decide +kernel)
  have hsch := in_nc g.scheme (by decide +kernel)
  have hcal := opt_nc g.cal
  have hidx := opt_nc g.index
  have hc : ((["order"] : List Str).any (toldB t os) = true) ↔ (os ≠ usualO) := by
    show ((toldB t os "order" || false) = true) ↔ (os ≠ usualO)
    rw [told_ord]
    simp
  by_cases c : os ≠ usualO
  · rw [someL_pos (hc.mpr c)]
    show some _ = (if false = true ∨ os ≠ usualO then some ((rowUse os) : List Str) else none).map rowL
    rw [if_pos (.inr c)]
    show some _ = some _
    refine congrArg some ?_
    have l3 : os.length = 3 := ho.length_eq
    obtain ⟨a, b, c2, rfl⟩ : ∃ a b c, os = [a, b, c] := by
      match os, l3 with
      | [a, b, c], _ => exact ⟨a, b, c, rfl⟩
    have nc : ∀ x ∈ [a, b, c2], x ≠ "," := fun x hx => in_nc (ho.mem_iff.mp hx) (by decide +kernel)
    have na := nc a (by simp)
    have nb := nc b (by simp)
    have nd := nc c2 (by simp)
    rw [join3]
    show _ = rowL ["use", a, ",", b, ",", c2]
    unfold rowL lineW
    simp only [List.foldl_cons, List.foldl_nil]
    rw [addW_n (w := "use") (by decide +kernel), addW_n (w := a) na, addW_c, addW_n (w := b) nb, addW_c, addW_n (w := c2) nd]
    simp only [appA, lt0, lt1, lt2, lt3, lt4, lt5, lt6, lt7, lt8, lt9, lt10, lt11, lt12, lt13, lt14, lt15, lt16, lt17, lt18, lt19, lt20, lt21]
  · rw [someL_neg (fun q => c (hc.mp q))]
    show none = (if false = true ∨ os ≠ usualO then some ((rowUse os) : List Str) else none).map rowL
    rw [if_neg (fun q => q.elim (fun z => absurd z (by decide)) c)]
    rfl
theorem cl11 {t : TM} {os : List Str} (g : GoodT t) (hcr : t.cal = "" → t.rule = "none") (ho : os.Perm usualO) : someL t os (["penalty"], "penalty " ++ pct t.pen) = ((clW false t os)[11]?.getD none).map rowL := by
  have g1 := g.count
  have g2 := every_bd g.every
  have g3 := g.due
  have g4 := g.free
  have g5 := g.ofee
  have g6 := g.opart
  have g7 := g.pfee
  have g8 := g.lfee
  have g9 := g.grace
  have g10 := g.epart
  have g11 := g.emonths
  have hrule := in_nc g.rule (by decide +kernel)
  have hconv := in_nc g.conv (by decide +kernel)
  have hmode := in_nc g.mode (by decide +kernel)
  have hsch := in_nc g.scheme (by decide +kernel)
  have hcal := opt_nc g.cal
  have hidx := opt_nc g.index
  have hc : ((["penalty"] : List Str).any (toldB t os) = true) ↔ (t.pen ≠ 0) := by
    show ((toldB t os "penalty" || false) = true) ↔ (t.pen ≠ 0)
    rw [told_penalty]
    simp
  by_cases c : t.pen ≠ 0
  · rw [someL_pos (hc.mpr c)]
    show some _ = (if false = true ∨ t.pen ≠ 0 then some (["penalty", pct t.pen] : List Str) else none).map rowL
    rw [if_pos (.inr c)]
    show some _ = some _
    refine congrArg some ?_
    unfold rowL lineW
    simp only [List.foldl_cons, List.foldl_nil]
    rw [addW_n (w := "penalty") (by decide +kernel), addW_n (w := (pct t.pen)) (pct_nc)]
    simp only [appA, lt0, lt1, lt2, lt3, lt4, lt5, lt6, lt7, lt8, lt9, lt10, lt11, lt12, lt13, lt14, lt15, lt16, lt17, lt18, lt19, lt20, lt21]
  · rw [someL_neg (fun q => c (hc.mp q))]
    show none = (if false = true ∨ t.pen ≠ 0 then some (["penalty", pct t.pen] : List Str) else none).map rowL
    rw [if_neg (fun q => q.elim (fun z => absurd z (by decide)) c)]
    rfl
theorem lines_eq {t : TM} {os : List Str} (g : GoodT t) (hcr : t.cal = "" → t.rule = "none") (ho : os.Perm usualO) : linesP t os = (rowsN false t os 12).map rowL := by
  have e : (nmsP.zip (lnsP t os)).map (someL t os) = (clW false t os).map (Option.map rowL) := by
    show [someL t os _, someL t os _, someL t os _, someL t os _, someL t os _, someL t os _, someL t os _, someL t os _, someL t os _, someL t os _, someL t os _, someL t os _] = _
    rw [cl0 g hcr ho, cl1 g hcr ho, cl2 g hcr ho, cl3 g hcr ho, cl4 g hcr ho, cl5 g hcr ho, cl6 g hcr ho, cl7 g hcr ho, cl8 g hcr ho, cl9 g hcr ho, cl10 g hcr ho, cl11 g hcr ho]
    rfl
  have f : ∀ {α : Type} (l : List α) (h : α → Option Str), l.filterMap h = (l.map h).filterMap id := fun l h => by
    rw [List.filterMap_map]
    rfl
  have f2 : ∀ l : List (Option (List Str)), (l.map (Option.map rowL)).filterMap id = (l.filterMap id).map rowL := fun l => by
    induction l with
    | nil => rfl
    | cons a l ih =>
      cases a with
      | none => exact ih
      | some r =>
        show rowL r :: _ = rowL r :: _
        rw [← ih]
  unfold linesP
  rw [f, e, f2]
  rfl
theorem all_eq {t : TM} {os : List Str} (g : GoodT t) (hcr : t.cal = "" → t.rule = "none") (ho : os.Perm usualO) : allLP t os = allLW t os := by
  unfold allLP allLW
  rw [lines_eq g hcr ho]
end LB

namespace My
open PySem PySem.Spec PyProof.Rows L2 LB
theorem ite_guard {c : Prop} [Decidable c] {A B : Prop} (h : if c then A else B) : if c then A else B := h
theorem iteKT {c : Bool} {A B : Prop} (hc : c = true) (h : A) : if c = true then A else B := by rw [if_pos hc]; exact h
theorem iteKF {c : Bool} {A B : Prop} (hc : c = false) (h : B) : if c = true then A else B := by rw [if_neg (by rw [hc]; exact Bool.false_ne_true)]; exact h
local macro_rules | `(tactic| walk_at "sz") => `(tactic| first
  | assumption
  | ((with_reducible apply Sz.mul) <;> walk_at "sz") | ((with_reducible apply Sz.add) <;> walk_at "sz") | ((with_reducible apply Sz.sub) <;> walk_at "sz") | ((with_reducible apply Sz.neg) <;> walk_at "sz")
  | exact Sz.mk (n := 64) (by omega) | exact Sz.mk (n := 201) (by omega) | ((with_reducible apply Sz.div) <;> walk_at "sz") | (with_reducible exact cell_sz (by assumption) _))
local macro_rules | `(tactic| walk_at "cond") => `(tactic| first
  | ((show (0 : Int) < _); first | decide | omega)
  | assumption
  | exact (True.intro : any1 _)
  | exact ty_s
  | ((with_reducible apply ty_l); (walk_at "sq")) | ((with_reducible apply ty_d); (walk_at "hp"))
  | ((with_reducible apply CM.of2) <;> first | walk_at "sz" | decide)
  | ((with_reducible apply CD.of2) <;> first | walk_at "sz" | decide | omega)
  | (with_reducible exact ⟨by decide, by decide, by decide⟩))
local macro_rules | `(tactic| walk_at "len") => `(tactic| first | assumption | exact Nat.lt_of_succ_le (Nat.le_of_ble_eq_true (by rfl)))
local macro_rules | `(tactic| walk_at "hp") => `(tactic| first | assumption | exact upd_same | ((with_reducible apply hp_upd) <;> (walk_at "hp")))
local macro_rules | `(tactic| walk_at "sq0") => `(tactic| first | assumption | exact l_of upd_same | exact t_of upd_same | (apply l_of; (assumption)) | (apply t_of; (assumption)) | walk_at "sqc")
local macro_rules | `(tactic| walk_at "sq1") => `(tactic| first | walk_at "sq0" | (apply lst_upd; (assumption); (walk_at "sq0")) | (apply tup_upd; (assumption); (walk_at "sq0")))
local macro_rules | `(tactic| walk_at "sq2") => `(tactic| first | walk_at "sq0" | (apply lst_upd; (assumption); (walk_at "sq1")) | (apply tup_upd; (assumption); (walk_at "sq1")))
local macro_rules | `(tactic| walk_at "sq3") => `(tactic| first | walk_at "sq0" | (apply lst_upd; (assumption); (walk_at "sq2")) | (apply tup_upd; (assumption); (walk_at "sq2")))
local macro_rules | `(tactic| walk_at "sq4") => `(tactic| first | walk_at "sq0" | (apply lst_upd; (assumption); (walk_at "sq3")) | (apply tup_upd; (assumption); (walk_at "sq3")))
local macro_rules | `(tactic| walk_at "sq5") => `(tactic| first | walk_at "sq0" | (apply lst_upd; (assumption); (walk_at "sq4")) | (apply tup_upd; (assumption); (walk_at "sq4")))
local macro_rules | `(tactic| walk_at "sq6") => `(tactic| first | walk_at "sq0" | (apply lst_upd; (assumption); (walk_at "sq5")) | (apply tup_upd; (assumption); (walk_at "sq5")))
local macro_rules | `(tactic| walk_at "sq7") => `(tactic| first | walk_at "sq0" | (apply lst_upd; (assumption); (walk_at "sq6")) | (apply tup_upd; (assumption); (walk_at "sq6")))
local macro_rules | `(tactic| walk_at "sq8") => `(tactic| first | walk_at "sq0" | (apply lst_upd; (assumption); (walk_at "sq7")) | (apply tup_upd; (assumption); (walk_at "sq7")))
local macro_rules | `(tactic| walk_at "sq") => `(tactic| walk_at "sq8")
local macro_rules | `(tactic| walk_at "ite0") => `(tactic| ((fail_if_success (with_reducible refine iteI (fun _ => ?_) (fun _ => ?_))); (fail_if_success (with_reducible refine iteIN (fun _ => ?_) (fun _ => ?_))); (fail_if_success (with_reducible refine iteD (fun _ => ?_) (fun _ => ?_))); (fail_if_success (with_reducible refine iteDN (fun _ => ?_) (fun _ => ?_))); (first | refine iteT ?_ | refine iteF ?_)))
local macro_rules | `(tactic| walk_at "ite1") => `(tactic| first | (refine iteKT (by decide +kernel) ?_) | (refine iteKF (by decide +kernel) ?_) | walk_at "ite0")
local macro_rules | `(tactic| walk_at "rd1") => `(tactic| first
  | refine ⟨_, rfl, ?_⟩
  | refine ⟨_, _, rfl, rfl, ?_⟩
  | refine ⟨rfl, ?_⟩
  | refine .inl ⟨_, rfl, ?_⟩
  | refine .inr ⟨_, rfl, ?_⟩
  | (with_reducible refine tC_go ?_) | (with_reducible refine tNoPart_go ?_)
  | ((with_reducible apply ixL_go); (first | assumption | exact l_of upd_same); (first | assumption | exact rfl))
  | ((with_reducible apply ixT_go); (first | assumption | exact t_of upd_same); (first | assumption | exact rfl))
  | walk_at "call"
  | (apply ixT_go; (walk_at "sq"); (first | assumption | rfl))
  | (apply ixL_go; (walk_at "sq"); (first | assumption | rfl))
  | (apply ixUT_go; (walk_at "sq"); (first | assumption | rfl))
  | (apply ixUL_go; (walk_at "sq"); (first | assumption | rfl))
  | (apply And.intro; (walk_at "cond"))
  | (apply And.intro; (exact Nat.le_of_ble_eq_true (by rfl)); (intro p hp))
  | refine ⟨_, _, _, rfl, (by walk_at "hp"), (by rfl), ?_⟩
  | ((with_reducible apply gTup_go); (walk_at "sq"); (exact rfl))
  | (apply ct_go; (walk_at "hp"); (walk_at "hp"); (first | assumption | exact Nat.le_of_ble_eq_true (by rfl)); (intro p hp))
  | (apply lo_l; (walk_at "sq"); (intro p hp)) | (apply lo_t; (walk_at "sq"); (intro p hp))
  | (apply mn_go) | (apply mx_go) | (apply isB_go) | (apply notB_go)
  | (apply setL_go; (walk_at "hp"); (first | assumption | exact rfl))
  | ((with_reducible apply slL_go); (walk_at "sq"); (intro p hp))
  | (apply inT_go; (walk_at "sq"); (exact rfl); (first | assumption | exact rfl)) | (apply inL_go; (walk_at "sq"); (exact rfl); (first | assumption | exact rfl))
  | (apply niT_go; (walk_at "sq"); (exact rfl); (first | assumption | exact rfl)) | (apply niL_go; (walk_at "sq"); (exact rfl); (first | assumption | exact rfl))
  | (apply app_go; (walk_at "hp"); (walk_at "len"))
  | (apply ln_t; (walk_at "sq")) | (apply ln_l; (walk_at "sq"))
  | (apply iteLen; (with_reducible rfl)) | (apply iteLenN; (with_reducible rfl)) | (apply iteLen; (exact rfl)) | (apply iteLenN; (exact rfl))
  | ((with_reducible refine ite_guard ?_); (walk_at "ite1"))
  | (apply isi_go (r := true); (first | exact .base (.int _) | exact .base (.str _) | exact .base (.bl _) | exact .base .non | exact tyx_t (by walk_at "sq") | exact tyx_l (by walk_at "sq")); (decide +kernel))
  | (apply isi_go (r := false); (first | exact .base (.int _) | exact .base (.str _) | exact .base (.bl _) | exact .base .non | exact tyx_t (by walk_at "sq") | exact tyx_l (by walk_at "sq")); (decide +kernel))
  | (apply isX_go; (walk_at "kit"); (walk_at "hp")) | (apply isX_ve; (walk_at "exv"); (walk_at "hp"))
  | (apply gTup_go; (walk_at "sq"); (exact rfl)) | (apply gCons_go) | (apply gNil_go))
local macro_rules | `(tactic| walk_at "rd") => `(tactic| repeat (walk_at "rd1"))

local macro_rules | `(tactic| walk_at "br1") => `(tactic| first
  | refine iteI (fun h => ?_) (fun h => ?_) | refine iteIN (fun h => ?_) (fun h => ?_)
  | refine iteS (fun h => ?_) (fun h => ?_) | refine iteSN (fun h => ?_) (fun h => ?_)
  | refine iteD (fun h => ?_) (fun h => ?_) | refine iteDN (fun h => ?_) (fun h => ?_))
local macro_rules | `(tactic| walk_at "go") => `(tactic| repeat' (first | walk_at "rd1" | walk_at "br1"))
local macro_rules | `(tactic| walk_at "sm0") => `(tactic| first | exact Same.refl _ | assumption)
local macro_rules | `(tactic| walk_at "sm1") => `(tactic| first | walk_at "sm0" | (apply same_new; (walk_at "sm0"); (assumption)) | (refine Same.trans ?_ (by assumption); (walk_at "sm0")))
local macro_rules | `(tactic| walk_at "sm2") => `(tactic| first | walk_at "sm0" | (apply same_new; (walk_at "sm1"); (assumption)) | (refine Same.trans ?_ (by assumption); (walk_at "sm1")))
local macro_rules | `(tactic| walk_at "sm3") => `(tactic| first | walk_at "sm0" | (apply same_new; (walk_at "sm2"); (assumption)) | (refine Same.trans ?_ (by assumption); (walk_at "sm2")))
local macro_rules | `(tactic| walk_at "sm4") => `(tactic| first | walk_at "sm0" | (apply same_new; (walk_at "sm3"); (assumption)) | (refine Same.trans ?_ (by assumption); (walk_at "sm3")))
local macro_rules | `(tactic| walk_at "sm5") => `(tactic| first | walk_at "sm0" | (apply same_new; (walk_at "sm4"); (assumption)) | (refine Same.trans ?_ (by assumption); (walk_at "sm4")))
local macro_rules | `(tactic| walk_at "sm6") => `(tactic| first | walk_at "sm0" | (apply same_new; (walk_at "sm5"); (assumption)) | (refine Same.trans ?_ (by assumption); (walk_at "sm5")))
local macro_rules | `(tactic| walk_at "sm7") => `(tactic| first | walk_at "sm0" | (apply same_new; (walk_at "sm6"); (assumption)) | (refine Same.trans ?_ (by assumption); (walk_at "sm6")))
local macro_rules | `(tactic| walk_at "sm8") => `(tactic| first | walk_at "sm0" | (apply same_new; (walk_at "sm7"); (assumption)) | (refine Same.trans ?_ (by assumption); (walk_at "sm7")))
local macro_rules | `(tactic| walk_at "sm9") => `(tactic| first | walk_at "sm0" | (apply same_new; (walk_at "sm8"); (assumption)) | (refine Same.trans ?_ (by assumption); (walk_at "sm8")))
local macro_rules | `(tactic| walk_at "sm10") => `(tactic| first | walk_at "sm0" | (apply same_new; (walk_at "sm9"); (assumption)) | (refine Same.trans ?_ (by assumption); (walk_at "sm9")))
local macro_rules | `(tactic| walk_at "sm11") => `(tactic| first | walk_at "sm0" | (apply same_new; (walk_at "sm10"); (assumption)) | (refine Same.trans ?_ (by assumption); (walk_at "sm10")))
local macro_rules | `(tactic| walk_at "sm12") => `(tactic| first | walk_at "sm0" | (apply same_new; (walk_at "sm11"); (assumption)) | (refine Same.trans ?_ (by assumption); (walk_at "sm11")))
local macro_rules | `(tactic| walk_at "sm13") => `(tactic| first | walk_at "sm0" | (apply same_new; (walk_at "sm12"); (assumption)) | (refine Same.trans ?_ (by assumption); (walk_at "sm12")))
local macro_rules | `(tactic| walk_at "sm14") => `(tactic| first | walk_at "sm0" | (apply same_new; (walk_at "sm13"); (assumption)) | (refine Same.trans ?_ (by assumption); (walk_at "sm13")))
local macro_rules | `(tactic| walk_at "sm") => `(tactic| walk_at "sm14")

local macro_rules | `(tactic| walk_at "rx") => `(tactic| (dsimp only [tC]; walk_at "rd"))

abbrev P : Program := PySem.Challenge.pw_lendbook_k28_products_are_shown
def top (i : Nat) : Stmt := PySem.Challenge.pw_lendbook_k28_products_are_shown.main.body.getD i (.Pass ⟨0, 0, 0, 0⟩)
abbrev s__wall : Stmt := top 0
abbrev s_show_integer : Stmt := top 4
abbrev s_check_between : Stmt := top 13
abbrev s_is_lower : Stmt := top 14
abbrev s_is_digit : Stmt := top 15
abbrev s_is_name : Stmt := top 18
abbrev s_check_name : Stmt := top 19
abbrev s_check_convention : Stmt := top 23
abbrev s_Terms___init__ : Stmt := inClass (top 35) 0
abbrev s_Terms_parts : Stmt := inClass (top 35) 1
abbrev s_Terms_copy_of : Stmt := inClass (top 35) 2
abbrev s_Terms_same_as : Stmt := inClass (top 35) 3
abbrev s_check_word : Stmt := top 36
abbrev s_check_terms : Stmt := top 37
abbrev s_check_charges : Stmt := top 38
abbrev s_check_together : Stmt := top 39
abbrev s_is_late_too_long : Stmt := top 40
abbrev s_show_amount : Stmt := top 42
abbrev s_show_percent : Stmt := top 43
abbrev s_payments_line : Stmt := top 44
abbrev s_due_line : Stmt := top 45
abbrev s_rate_line : Stmt := top 46
abbrev s_opening_line : Stmt := top 47
abbrev s_clause_lines : Stmt := top 48
abbrev s_told_fields : Stmt := top 49
abbrev s_show_product : Stmt := top 50
abbrev s_show_products : Stmt := top 51
abbrev s__law_cell : Stmt := top 53
abbrev s__law_draw : Stmt := top 54
abbrev s__law_fields : Stmt := top 55
abbrev s__law_order : Stmt := top 56
abbrev s__law_keys : Stmt := top 57
abbrev s__law_terms : Stmt := top 58
abbrev s__law_read_out : Stmt := top 59
abbrev s__law_alike : Stmt := top 60
abbrev s__law_money : Stmt := top 61
abbrev s__law_rate : Stmt := top 62
abbrev s__law_clauses : Stmt := top 63
abbrev s__law_shown : Stmt := top 64
abbrev s_law : Stmt := top 65
theorem sc__wall : FnScope ["k"] ["k"] (defScope s__wall) := ⟨rfl, rfl, rfl, by decide +kernel, rfl, by decide +kernel, by decide +kernel⟩
theorem sc_show_integer : FnScope ["value", "parts", "rest"] ["value"] (defScope s_show_integer) := ⟨rfl, rfl, rfl, by decide +kernel, rfl, by decide +kernel, by decide +kernel⟩
theorem sc_check_between : FnScope ["value", "least", "most"] ["value", "least", "most"] (defScope s_check_between) := ⟨rfl, rfl, rfl, by decide +kernel, rfl, by decide +kernel, by decide +kernel⟩
theorem sc_is_lower : FnScope ["character"] ["character"] (defScope s_is_lower) := ⟨rfl, rfl, rfl, by decide +kernel, rfl, by decide +kernel, by decide +kernel⟩
theorem sc_is_digit : FnScope ["character"] ["character"] (defScope s_is_digit) := ⟨rfl, rfl, rfl, by decide +kernel, rfl, by decide +kernel, by decide +kernel⟩
theorem sc_is_name : FnScope ["text", "character"] ["text"] (defScope s_is_name) := ⟨rfl, rfl, rfl, by decide +kernel, rfl, by decide +kernel, by decide +kernel⟩
theorem sc_check_name : FnScope ["text"] ["text"] (defScope s_check_name) := ⟨rfl, rfl, rfl, by decide +kernel, rfl, by decide +kernel, by decide +kernel⟩
theorem sc_check_convention : FnScope ["convention"] ["convention"] (defScope s_check_convention) := ⟨rfl, rfl, rfl, by decide +kernel, rfl, by decide +kernel, by decide +kernel⟩
theorem sc_Terms___init__ : FnScope ["self", "name", "count", "every", "due_on", "calendar", "rule", "index", "rate", "lowest", "highest", "convention", "mode", "scheme", "free", "opening_fee", "opening_part", "period_fee", "late_fee", "grace", "early_part", "early_months", "order", "penalty"] ["self", "name", "count", "every", "due_on", "calendar", "rule", "index", "rate", "lowest", "highest", "convention", "mode", "scheme", "free", "opening_fee", "opening_part", "period_fee", "late_fee", "grace", "early_part", "early_months", "order", "penalty"] (defScope s_Terms___init__) := ⟨rfl, rfl, rfl, by decide +kernel, rfl, by decide +kernel, by decide +kernel⟩
theorem sc_Terms_parts : FnScope ["self"] ["self"] (defScope s_Terms_parts) := ⟨rfl, rfl, rfl, by decide +kernel, rfl, by decide +kernel, by decide +kernel⟩
theorem sc_Terms_copy_of : FnScope ["self"] ["self"] (defScope s_Terms_copy_of) := ⟨rfl, rfl, rfl, by decide +kernel, rfl, by decide +kernel, by decide +kernel⟩
theorem sc_Terms_same_as : FnScope ["self", "other"] ["self", "other"] (defScope s_Terms_same_as) := ⟨rfl, rfl, rfl, by decide +kernel, rfl, by decide +kernel, by decide +kernel⟩
theorem sc_check_word : FnScope ["value", "words"] ["value", "words"] (defScope s_check_word) := ⟨rfl, rfl, rfl, by decide +kernel, rfl, by decide +kernel, by decide +kernel⟩
theorem sc_check_terms : FnScope ["terms"] ["terms"] (defScope s_check_terms) := ⟨rfl, rfl, rfl, by decide +kernel, rfl, by decide +kernel, by decide +kernel⟩
theorem sc_check_charges : FnScope ["terms"] ["terms"] (defScope s_check_charges) := ⟨rfl, rfl, rfl, by decide +kernel, rfl, by decide +kernel, by decide +kernel⟩
theorem sc_check_together : FnScope ["terms"] ["terms"] (defScope s_check_together) := ⟨rfl, rfl, rfl, by decide +kernel, rfl, by decide +kernel, by decide +kernel⟩
theorem sc_is_late_too_long : FnScope ["late_fee", "grace", "every"] ["late_fee", "grace", "every"] (defScope s_is_late_too_long) := ⟨rfl, rfl, rfl, by decide +kernel, rfl, by decide +kernel, by decide +kernel⟩
theorem sc_show_amount : FnScope ["cents", "whole", "rest"] ["cents"] (defScope s_show_amount) := ⟨rfl, rfl, rfl, by decide +kernel, rfl, by decide +kernel, by decide +kernel⟩
theorem sc_show_percent : FnScope ["rate", "whole", "rest", "parts"] ["rate"] (defScope s_show_percent) := ⟨rfl, rfl, rfl, by decide +kernel, rfl, by decide +kernel, by decide +kernel⟩
theorem sc_payments_line : FnScope ["terms", "line"] ["terms"] (defScope s_payments_line) := ⟨rfl, rfl, rfl, by decide +kernel, rfl, by decide +kernel, by decide +kernel⟩
theorem sc_due_line : FnScope ["terms"] ["terms"] (defScope s_due_line) := ⟨rfl, rfl, rfl, by decide +kernel, rfl, by decide +kernel, by decide +kernel⟩
theorem sc_rate_line : FnScope ["terms", "line"] ["terms"] (defScope s_rate_line) := ⟨rfl, rfl, rfl, by decide +kernel, rfl, by decide +kernel, by decide +kernel⟩
theorem sc_opening_line : FnScope ["terms", "line"] ["terms"] (defScope s_opening_line) := ⟨rfl, rfl, rfl, by decide +kernel, rfl, by decide +kernel, by decide +kernel⟩
theorem sc_clause_lines : FnScope ["terms"] ["terms"] (defScope s_clause_lines) := ⟨rfl, rfl, rfl, by decide +kernel, rfl, by decide +kernel, by decide +kernel⟩
theorem sc_told_fields : FnScope ["terms", "usual", "told", "name", "value", "default"] ["terms"] (defScope s_told_fields) := ⟨rfl, rfl, rfl, by decide +kernel, rfl, by decide +kernel, by decide +kernel⟩
theorem sc_show_product : FnScope ["terms", "told", "lines", "names", "line", "name"] ["terms"] (defScope s_show_product) := ⟨rfl, rfl, rfl, by decide +kernel, rfl, by decide +kernel, by decide +kernel⟩
theorem sc_show_products : FnScope ["products", "terms"] ["products"] (defScope s_show_products) := ⟨rfl, rfl, rfl, by decide +kernel, rfl, by decide +kernel, by decide +kernel⟩
theorem sc__law_cell : FnScope ["script", "k"] ["script", "k"] (defScope s__law_cell) := ⟨rfl, rfl, rfl, by decide +kernel, rfl, by decide +kernel, by decide +kernel⟩
theorem sc__law_draw : FnScope ["cell", "limits", "row", "rest", "great", "k", "mixed"] ["cell", "limits"] (defScope s__law_draw) := ⟨rfl, rfl, rfl, by decide +kernel, rfl, by decide +kernel, by decide +kernel⟩
theorem sc__law_fields : FnScope ["cell", "name", "d", "e", "f"] ["cell", "name"] (defScope s__law_fields) := ⟨rfl, rfl, rfl, by decide +kernel, rfl, by decide +kernel, by decide +kernel⟩
theorem sc__law_order : FnScope ["k", "kinds", "first", "rest", "kind"] ["k"] (defScope s__law_order) := ⟨rfl, rfl, rfl, by decide +kernel, rfl, by decide +kernel, by decide +kernel⟩
theorem sc__law_keys : FnScope ["keys"] [] (defScope s__law_keys) := ⟨rfl, rfl, rfl, by decide +kernel, rfl, by decide +kernel, by decide +kernel⟩
theorem sc__law_terms : FnScope ["f"] ["f"] (defScope s__law_terms) := ⟨rfl, rfl, rfl, by decide +kernel, rfl, by decide +kernel, by decide +kernel⟩
theorem sc__law_read_out : FnScope ["t", "f"] ["t"] (defScope s__law_read_out) := ⟨rfl, rfl, rfl, by decide +kernel, rfl, by decide +kernel, by decide +kernel⟩
theorem sc__law_alike : FnScope ["t", "f", "told", "key"] ["t", "f"] (defScope s__law_alike) := ⟨rfl, rfl, rfl, by decide +kernel, rfl, by decide +kernel, by decide +kernel⟩
theorem sc__law_money : FnScope ["cents", "sign", "parts"] ["cents"] (defScope s__law_money) := ⟨rfl, rfl, rfl, by decide +kernel, rfl, by decide +kernel, by decide +kernel⟩
theorem sc__law_rate : FnScope ["rate", "parts", "k"] ["rate"] (defScope s__law_rate) := ⟨rfl, rfl, rfl, by decide +kernel, rfl, by decide +kernel, by decide +kernel⟩
theorem sc__law_clauses : FnScope ["f", "whole", "rows", "rates"] ["f", "whole"] (defScope s__law_clauses) := ⟨rfl, rfl, rfl, by decide +kernel, rfl, by decide +kernel, by decide +kernel⟩
theorem sc__law_shown : FnScope ["f", "lines", "row", "line", "one"] ["f"] (defScope s__law_shown) := ⟨rfl, rfl, rfl, by decide +kernel, rfl, by decide +kernel, by decide +kernel⟩
theorem sc_law : FnScope ["script", "count", "fields", "k", "products", "f", "texts", "actual", "given", "joined", "cents", "rate", "amount", "percent"] ["script"] (defScope s_law) := ⟨rfl, rfl, rfl, by decide +kernel, rfl, by decide +kernel, by decide +kernel⟩
def kw_Terms___init__ (q : Addr) : List (Str × V) := [("every", .int 1), ("due_on", .int 1), ("calendar", .str ""), ("rule", .str "none"), ("index", .str ""), ("rate", .int 0), ("lowest", .int 0), ("highest", .int 1000000), ("convention", .str "actual/365"), ("mode", .str "near"), ("scheme", .str "annuity"), ("free", .int 0), ("opening_fee", .int 0), ("opening_part", .int 0), ("period_fee", .int 0), ("late_fee", .int 0), ("grace", .int 5), ("early_part", .int 0), ("early_months", .int 0), ("order", .ref q), ("penalty", .int 0)]
abbrev s_OutOfRange : Stmt := inClass (top 7) 0
abbrev s_UnknownName : Stmt := inClass (top 8) 0
abbrev s_BadName : Stmt := inClass (top 9) 0
def v_RULES : List V := [.str "none", .str "following", .str "preceding", .str "modified"]
def kv_PARTS : List (Str × V) := [("actual/365", .int 365), ("actual/360", .int 360), ("30/360", .int 360), ("actual/actual", .int 133590)]
def v_MODES : List V := [.str "down", .str "up", .str "near", .str "even"]
def v_SCHEMES : List V := [.str "annuity", .str "equal", .str "bullet"]
def v_EVERY : List V := [.int 1, .int 2, .int 3, .int 4, .int 6, .int 12]
def v_USUAL_ORDER : List V := [.str "fees", .str "interest", .str "principal"]
def v_FIELD_NAMES : List V := [.str "name", .str "count", .str "every", .str "due_on", .str "calendar", .str "rule", .str "index", .str "rate", .str "lowest", .str "highest", .str "convention", .str "mode", .str "scheme", .str "free", .str "opening_fee", .str "opening_part", .str "period_fee", .str "late_fee", .str "grace", .str "early_part", .str "early_months", .str "order", .str "penalty"]
structure Txt (w : World) (K : PySem.W.Frag) (mg : Str → Option Value) : Type where
  a__wall : Addr
  fd__wall : FuncData
  F__wall : FunD K "_wall" "_wall" (defArgs s__wall) (defBody s__wall) (defScope s__wall) [] [] a__wall fd__wall
  m__wall : mg "_wall" = some (.ref a__wall)
  b__wall : Binds K fd__wall ["k"] []
  a_show_integer : Addr
  fd_show_integer : FuncData
  F_show_integer : FunD K "show_integer" "show_integer" (defArgs s_show_integer) (defBody s_show_integer) (defScope s_show_integer) [] [] a_show_integer fd_show_integer
  m_show_integer : mg "show_integer" = some (.ref a_show_integer)
  b_show_integer : Binds K fd_show_integer ["value"] []
  a_check_between : Addr
  fd_check_between : FuncData
  F_check_between : FunD K "check_between" "check_between" (defArgs s_check_between) (defBody s_check_between) (defScope s_check_between) [] [] a_check_between fd_check_between
  m_check_between : mg "check_between" = some (.ref a_check_between)
  b_check_between : Binds K fd_check_between ["value", "least", "most"] []
  a_is_lower : Addr
  fd_is_lower : FuncData
  F_is_lower : FunD K "is_lower" "is_lower" (defArgs s_is_lower) (defBody s_is_lower) (defScope s_is_lower) [] [] a_is_lower fd_is_lower
  m_is_lower : mg "is_lower" = some (.ref a_is_lower)
  b_is_lower : Binds K fd_is_lower ["character"] []
  a_is_digit : Addr
  fd_is_digit : FuncData
  F_is_digit : FunD K "is_digit" "is_digit" (defArgs s_is_digit) (defBody s_is_digit) (defScope s_is_digit) [] [] a_is_digit fd_is_digit
  m_is_digit : mg "is_digit" = some (.ref a_is_digit)
  b_is_digit : Binds K fd_is_digit ["character"] []
  a_is_name : Addr
  fd_is_name : FuncData
  F_is_name : FunD K "is_name" "is_name" (defArgs s_is_name) (defBody s_is_name) (defScope s_is_name) [] [] a_is_name fd_is_name
  m_is_name : mg "is_name" = some (.ref a_is_name)
  b_is_name : Binds K fd_is_name ["text"] []
  a_check_name : Addr
  fd_check_name : FuncData
  F_check_name : FunD K "check_name" "check_name" (defArgs s_check_name) (defBody s_check_name) (defScope s_check_name) [] [] a_check_name fd_check_name
  m_check_name : mg "check_name" = some (.ref a_check_name)
  b_check_name : Binds K fd_check_name ["text"] []
  a_check_convention : Addr
  fd_check_convention : FuncData
  F_check_convention : FunD K "check_convention" "check_convention" (defArgs s_check_convention) (defBody s_check_convention) (defScope s_check_convention) [] [] a_check_convention fd_check_convention
  m_check_convention : mg "check_convention" = some (.ref a_check_convention)
  b_check_convention : Binds K fd_check_convention ["convention"] []
  a_Terms___init__ : Addr
  fd_Terms___init__ : FuncData
  qk_Terms___init__ : Addr
  tk_Terms___init__ : ∀ H : Hp, SqT K H qk_Terms___init__ [.str "fees", .str "interest", .str "principal"]
  F_Terms___init__ : FunD K "__init__" "Terms.__init__" (defArgs s_Terms___init__) (defBody s_Terms___init__) (defScope s_Terms___init__) [] (kw_Terms___init__ qk_Terms___init__) a_Terms___init__ fd_Terms___init__
  a_Terms_parts : Addr
  fd_Terms_parts : FuncData
  F_Terms_parts : FunD K "parts" "Terms.parts" (defArgs s_Terms_parts) (defBody s_Terms_parts) (defScope s_Terms_parts) [] [] a_Terms_parts fd_Terms_parts
  b_Terms_parts : Binds K fd_Terms_parts ["self"] []
  a_Terms_copy_of : Addr
  fd_Terms_copy_of : FuncData
  F_Terms_copy_of : FunD K "copy_of" "Terms.copy_of" (defArgs s_Terms_copy_of) (defBody s_Terms_copy_of) (defScope s_Terms_copy_of) [] [] a_Terms_copy_of fd_Terms_copy_of
  b_Terms_copy_of : Binds K fd_Terms_copy_of ["self"] []
  a_Terms_same_as : Addr
  fd_Terms_same_as : FuncData
  F_Terms_same_as : FunD K "same_as" "Terms.same_as" (defArgs s_Terms_same_as) (defBody s_Terms_same_as) (defScope s_Terms_same_as) [] [] a_Terms_same_as fd_Terms_same_as
  b_Terms_same_as : Binds K fd_Terms_same_as ["self", "other"] []
  a_check_word : Addr
  fd_check_word : FuncData
  F_check_word : FunD K "check_word" "check_word" (defArgs s_check_word) (defBody s_check_word) (defScope s_check_word) [] [] a_check_word fd_check_word
  m_check_word : mg "check_word" = some (.ref a_check_word)
  b_check_word : Binds K fd_check_word ["value", "words"] []
  a_check_terms : Addr
  fd_check_terms : FuncData
  F_check_terms : FunD K "check_terms" "check_terms" (defArgs s_check_terms) (defBody s_check_terms) (defScope s_check_terms) [] [] a_check_terms fd_check_terms
  m_check_terms : mg "check_terms" = some (.ref a_check_terms)
  b_check_terms : Binds K fd_check_terms ["terms"] []
  a_check_charges : Addr
  fd_check_charges : FuncData
  F_check_charges : FunD K "check_charges" "check_charges" (defArgs s_check_charges) (defBody s_check_charges) (defScope s_check_charges) [] [] a_check_charges fd_check_charges
  m_check_charges : mg "check_charges" = some (.ref a_check_charges)
  b_check_charges : Binds K fd_check_charges ["terms"] []
  a_check_together : Addr
  fd_check_together : FuncData
  F_check_together : FunD K "check_together" "check_together" (defArgs s_check_together) (defBody s_check_together) (defScope s_check_together) [] [] a_check_together fd_check_together
  m_check_together : mg "check_together" = some (.ref a_check_together)
  b_check_together : Binds K fd_check_together ["terms"] []
  a_is_late_too_long : Addr
  fd_is_late_too_long : FuncData
  F_is_late_too_long : FunD K "is_late_too_long" "is_late_too_long" (defArgs s_is_late_too_long) (defBody s_is_late_too_long) (defScope s_is_late_too_long) [] [] a_is_late_too_long fd_is_late_too_long
  m_is_late_too_long : mg "is_late_too_long" = some (.ref a_is_late_too_long)
  b_is_late_too_long : Binds K fd_is_late_too_long ["late_fee", "grace", "every"] []
  a_show_amount : Addr
  fd_show_amount : FuncData
  F_show_amount : FunD K "show_amount" "show_amount" (defArgs s_show_amount) (defBody s_show_amount) (defScope s_show_amount) [] [] a_show_amount fd_show_amount
  m_show_amount : mg "show_amount" = some (.ref a_show_amount)
  b_show_amount : Binds K fd_show_amount ["cents"] []
  a_show_percent : Addr
  fd_show_percent : FuncData
  F_show_percent : FunD K "show_percent" "show_percent" (defArgs s_show_percent) (defBody s_show_percent) (defScope s_show_percent) [] [] a_show_percent fd_show_percent
  m_show_percent : mg "show_percent" = some (.ref a_show_percent)
  b_show_percent : Binds K fd_show_percent ["rate"] []
  a_payments_line : Addr
  fd_payments_line : FuncData
  F_payments_line : FunD K "payments_line" "payments_line" (defArgs s_payments_line) (defBody s_payments_line) (defScope s_payments_line) [] [] a_payments_line fd_payments_line
  m_payments_line : mg "payments_line" = some (.ref a_payments_line)
  b_payments_line : Binds K fd_payments_line ["terms"] []
  a_due_line : Addr
  fd_due_line : FuncData
  F_due_line : FunD K "due_line" "due_line" (defArgs s_due_line) (defBody s_due_line) (defScope s_due_line) [] [] a_due_line fd_due_line
  m_due_line : mg "due_line" = some (.ref a_due_line)
  b_due_line : Binds K fd_due_line ["terms"] []
  a_rate_line : Addr
  fd_rate_line : FuncData
  F_rate_line : FunD K "rate_line" "rate_line" (defArgs s_rate_line) (defBody s_rate_line) (defScope s_rate_line) [] [] a_rate_line fd_rate_line
  m_rate_line : mg "rate_line" = some (.ref a_rate_line)
  b_rate_line : Binds K fd_rate_line ["terms"] []
  a_opening_line : Addr
  fd_opening_line : FuncData
  F_opening_line : FunD K "opening_line" "opening_line" (defArgs s_opening_line) (defBody s_opening_line) (defScope s_opening_line) [] [] a_opening_line fd_opening_line
  m_opening_line : mg "opening_line" = some (.ref a_opening_line)
  b_opening_line : Binds K fd_opening_line ["terms"] []
  a_clause_lines : Addr
  fd_clause_lines : FuncData
  F_clause_lines : FunD K "clause_lines" "clause_lines" (defArgs s_clause_lines) (defBody s_clause_lines) (defScope s_clause_lines) [] [] a_clause_lines fd_clause_lines
  m_clause_lines : mg "clause_lines" = some (.ref a_clause_lines)
  b_clause_lines : Binds K fd_clause_lines ["terms"] []
  a_told_fields : Addr
  fd_told_fields : FuncData
  F_told_fields : FunD K "told_fields" "told_fields" (defArgs s_told_fields) (defBody s_told_fields) (defScope s_told_fields) [] [] a_told_fields fd_told_fields
  m_told_fields : mg "told_fields" = some (.ref a_told_fields)
  b_told_fields : Binds K fd_told_fields ["terms"] []
  a_show_product : Addr
  fd_show_product : FuncData
  F_show_product : FunD K "show_product" "show_product" (defArgs s_show_product) (defBody s_show_product) (defScope s_show_product) [] [] a_show_product fd_show_product
  m_show_product : mg "show_product" = some (.ref a_show_product)
  b_show_product : Binds K fd_show_product ["terms"] []
  a_show_products : Addr
  fd_show_products : FuncData
  F_show_products : FunD K "show_products" "show_products" (defArgs s_show_products) (defBody s_show_products) (defScope s_show_products) [] [] a_show_products fd_show_products
  m_show_products : mg "show_products" = some (.ref a_show_products)
  b_show_products : Binds K fd_show_products ["products"] []
  a__law_cell : Addr
  fd__law_cell : FuncData
  F__law_cell : FunD K "_law_cell" "_law_cell" (defArgs s__law_cell) (defBody s__law_cell) (defScope s__law_cell) [] [] a__law_cell fd__law_cell
  m__law_cell : mg "_law_cell" = some (.ref a__law_cell)
  b__law_cell : Binds K fd__law_cell ["script", "k"] []
  a__law_draw : Addr
  fd__law_draw : FuncData
  F__law_draw : FunD K "_law_draw" "_law_draw" (defArgs s__law_draw) (defBody s__law_draw) (defScope s__law_draw) [] [] a__law_draw fd__law_draw
  m__law_draw : mg "_law_draw" = some (.ref a__law_draw)
  b__law_draw : Binds K fd__law_draw ["cell", "limits"] []
  a__law_fields : Addr
  fd__law_fields : FuncData
  F__law_fields : FunD K "_law_fields" "_law_fields" (defArgs s__law_fields) (defBody s__law_fields) (defScope s__law_fields) [] [] a__law_fields fd__law_fields
  m__law_fields : mg "_law_fields" = some (.ref a__law_fields)
  b__law_fields : Binds K fd__law_fields ["cell", "name"] []
  a__law_order : Addr
  fd__law_order : FuncData
  F__law_order : FunD K "_law_order" "_law_order" (defArgs s__law_order) (defBody s__law_order) (defScope s__law_order) [] [] a__law_order fd__law_order
  m__law_order : mg "_law_order" = some (.ref a__law_order)
  b__law_order : Binds K fd__law_order ["k"] []
  a__law_keys : Addr
  fd__law_keys : FuncData
  F__law_keys : FunD K "_law_keys" "_law_keys" (defArgs s__law_keys) (defBody s__law_keys) (defScope s__law_keys) [] [] a__law_keys fd__law_keys
  m__law_keys : mg "_law_keys" = some (.ref a__law_keys)
  b__law_keys : Binds K fd__law_keys [] []
  a__law_terms : Addr
  fd__law_terms : FuncData
  F__law_terms : FunD K "_law_terms" "_law_terms" (defArgs s__law_terms) (defBody s__law_terms) (defScope s__law_terms) [] [] a__law_terms fd__law_terms
  m__law_terms : mg "_law_terms" = some (.ref a__law_terms)
  b__law_terms : Binds K fd__law_terms ["f"] []
  a__law_read_out : Addr
  fd__law_read_out : FuncData
  F__law_read_out : FunD K "_law_read_out" "_law_read_out" (defArgs s__law_read_out) (defBody s__law_read_out) (defScope s__law_read_out) [] [] a__law_read_out fd__law_read_out
  m__law_read_out : mg "_law_read_out" = some (.ref a__law_read_out)
  b__law_read_out : Binds K fd__law_read_out ["t"] []
  a__law_alike : Addr
  fd__law_alike : FuncData
  F__law_alike : FunD K "_law_alike" "_law_alike" (defArgs s__law_alike) (defBody s__law_alike) (defScope s__law_alike) [] [] a__law_alike fd__law_alike
  m__law_alike : mg "_law_alike" = some (.ref a__law_alike)
  b__law_alike : Binds K fd__law_alike ["t", "f"] []
  a__law_money : Addr
  fd__law_money : FuncData
  F__law_money : FunD K "_law_money" "_law_money" (defArgs s__law_money) (defBody s__law_money) (defScope s__law_money) [] [] a__law_money fd__law_money
  m__law_money : mg "_law_money" = some (.ref a__law_money)
  b__law_money : Binds K fd__law_money ["cents"] []
  a__law_rate : Addr
  fd__law_rate : FuncData
  F__law_rate : FunD K "_law_rate" "_law_rate" (defArgs s__law_rate) (defBody s__law_rate) (defScope s__law_rate) [] [] a__law_rate fd__law_rate
  m__law_rate : mg "_law_rate" = some (.ref a__law_rate)
  b__law_rate : Binds K fd__law_rate ["rate"] []
  a__law_clauses : Addr
  fd__law_clauses : FuncData
  F__law_clauses : FunD K "_law_clauses" "_law_clauses" (defArgs s__law_clauses) (defBody s__law_clauses) (defScope s__law_clauses) [] [] a__law_clauses fd__law_clauses
  m__law_clauses : mg "_law_clauses" = some (.ref a__law_clauses)
  b__law_clauses : Binds K fd__law_clauses ["f", "whole"] []
  a__law_shown : Addr
  fd__law_shown : FuncData
  F__law_shown : FunD K "_law_shown" "_law_shown" (defArgs s__law_shown) (defBody s__law_shown) (defScope s__law_shown) [] [] a__law_shown fd__law_shown
  m__law_shown : mg "_law_shown" = some (.ref a__law_shown)
  b__law_shown : Binds K fd__law_shown ["f"] []
  a_law : Addr
  fd_law : FuncData
  F_law : FunD K "law" "law" (defArgs s_law) (defBody s_law) (defScope s_law) [] [] a_law fd_law
  m_law : mg "law" = some (.ref a_law)
  b_law : Binds K fd_law ["script"] []
  c_Terms : Addr
  m_Terms : mg "Terms" = some (.ref c_Terms)
  cl_Terms : Cls K c_Terms
  mk_Terms : Mk K c_Terms a_Terms___init__
  me_Terms_parts : Meth K c_Terms "parts" a_Terms_parts
  me_Terms_copy_of : Meth K c_Terms "copy_of" a_Terms_copy_of
  me_Terms_same_as : Meth K c_Terms "same_as" a_Terms_same_as
  na_Terms_name : NoAttr K c_Terms "name"
  na_Terms_count : NoAttr K c_Terms "count"
  na_Terms_every : NoAttr K c_Terms "every"
  na_Terms_due_on : NoAttr K c_Terms "due_on"
  na_Terms_calendar : NoAttr K c_Terms "calendar"
  na_Terms_rule : NoAttr K c_Terms "rule"
  na_Terms_index : NoAttr K c_Terms "index"
  na_Terms_rate : NoAttr K c_Terms "rate"
  na_Terms_lowest : NoAttr K c_Terms "lowest"
  na_Terms_highest : NoAttr K c_Terms "highest"
  na_Terms_convention : NoAttr K c_Terms "convention"
  na_Terms_mode : NoAttr K c_Terms "mode"
  na_Terms_scheme : NoAttr K c_Terms "scheme"
  na_Terms_free : NoAttr K c_Terms "free"
  na_Terms_opening_fee : NoAttr K c_Terms "opening_fee"
  na_Terms_opening_part : NoAttr K c_Terms "opening_part"
  na_Terms_period_fee : NoAttr K c_Terms "period_fee"
  na_Terms_late_fee : NoAttr K c_Terms "late_fee"
  na_Terms_grace : NoAttr K c_Terms "grace"
  na_Terms_early_part : NoAttr K c_Terms "early_part"
  na_Terms_early_months : NoAttr K c_Terms "early_months"
  na_Terms_order : NoAttr K c_Terms "order"
  na_Terms_penalty : NoAttr K c_Terms "penalty"
  c_BookError : Addr
  m_BookError : mg "BookError" = some (.ref c_BookError)
  e_BookError : ECls K c_BookError
  c_OutOfRange : Addr
  m_OutOfRange : mg "OutOfRange" = some (.ref c_OutOfRange)
  e_OutOfRange : ECls K c_OutOfRange
  x_OutOfRange : XTxt P K mg "OutOfRange.__init__" s_OutOfRange c_OutOfRange
  n_OutOfRange_label : PySem.W.findIn K (.ref c_OutOfRange) "label" = some none
  n_OutOfRange_value : PySem.W.findIn K (.ref c_OutOfRange) "value" = some none
  c_UnknownName : Addr
  m_UnknownName : mg "UnknownName" = some (.ref c_UnknownName)
  e_UnknownName : ECls K c_UnknownName
  x_UnknownName : XTxt P K mg "UnknownName.__init__" s_UnknownName c_UnknownName
  n_UnknownName_label : PySem.W.findIn K (.ref c_UnknownName) "label" = some none
  n_UnknownName_name : PySem.W.findIn K (.ref c_UnknownName) "name" = some none
  c_BadName : Addr
  m_BadName : mg "BadName" = some (.ref c_BadName)
  e_BadName : ECls K c_BadName
  x_BadName : XTxt P K mg "BadName.__init__" s_BadName c_BadName
  n_BadName_label : PySem.W.findIn K (.ref c_BadName) "label" = some none
  n_BadName_name : PySem.W.findIn K (.ref c_BadName) "name" = some none
  y_BookError_BookError : PySem.W.subIn K (.ref c_BookError) (.ref c_BookError) = some true
  y_BookError_OutOfRange : PySem.W.subIn K (.ref c_BookError) (.ref c_OutOfRange) = some false
  y_BookError_UnknownName : PySem.W.subIn K (.ref c_BookError) (.ref c_UnknownName) = some false
  y_BookError_BadName : PySem.W.subIn K (.ref c_BookError) (.ref c_BadName) = some false
  yv_BookError : PySem.W.subIn K (.ref c_BookError) (.type "ValueError") = some true
  y_OutOfRange_BookError : PySem.W.subIn K (.ref c_OutOfRange) (.ref c_BookError) = some true
  y_OutOfRange_OutOfRange : PySem.W.subIn K (.ref c_OutOfRange) (.ref c_OutOfRange) = some true
  y_OutOfRange_UnknownName : PySem.W.subIn K (.ref c_OutOfRange) (.ref c_UnknownName) = some false
  y_OutOfRange_BadName : PySem.W.subIn K (.ref c_OutOfRange) (.ref c_BadName) = some false
  yv_OutOfRange : PySem.W.subIn K (.ref c_OutOfRange) (.type "ValueError") = some true
  y_UnknownName_BookError : PySem.W.subIn K (.ref c_UnknownName) (.ref c_BookError) = some true
  y_UnknownName_OutOfRange : PySem.W.subIn K (.ref c_UnknownName) (.ref c_OutOfRange) = some false
  y_UnknownName_UnknownName : PySem.W.subIn K (.ref c_UnknownName) (.ref c_UnknownName) = some true
  y_UnknownName_BadName : PySem.W.subIn K (.ref c_UnknownName) (.ref c_BadName) = some false
  yv_UnknownName : PySem.W.subIn K (.ref c_UnknownName) (.type "ValueError") = some true
  y_BadName_BookError : PySem.W.subIn K (.ref c_BadName) (.ref c_BookError) = some true
  y_BadName_OutOfRange : PySem.W.subIn K (.ref c_BadName) (.ref c_OutOfRange) = some false
  y_BadName_UnknownName : PySem.W.subIn K (.ref c_BadName) (.ref c_UnknownName) = some false
  y_BadName_BadName : PySem.W.subIn K (.ref c_BadName) (.ref c_BadName) = some true
  yv_BadName : PySem.W.subIn K (.ref c_BadName) (.type "ValueError") = some true
  nd : NoDig K
  m_LARGE : ∃ t, mg "LARGE" = some (.int 1000000000000000000 t)
  m_DIGITS : ∃ t, mg "DIGITS" = some (.int 18 t)
  m_MOST_CENTS : ∃ t, mg "MOST_CENTS" = some (.int 1000000000000 t)
  m_MOST_RATE : ∃ t, mg "MOST_RATE" = some (.int 1000000 t)
  m_NAME_LENGTH : ∃ t, mg "NAME_LENGTH" = some (.int 12 t)
  q_RULES : Addr
  m_RULES : mg "RULES" = some (.ref q_RULES)
  t_RULES : ∀ H : Hp, SqT K H q_RULES v_RULES
  q_PARTS : Addr
  m_PARTS : mg "PARTS" = some (.ref q_PARTS)
  kd_PARTS : ∃ es n, KDict K w q_PARTS es n
  ka_PARTS : ∀ z : Str, KAt K q_PARTS z (kget kv_PARTS z)
  q_MODES : Addr
  m_MODES : mg "MODES" = some (.ref q_MODES)
  t_MODES : ∀ H : Hp, SqT K H q_MODES v_MODES
  q_SCHEMES : Addr
  m_SCHEMES : mg "SCHEMES" = some (.ref q_SCHEMES)
  t_SCHEMES : ∀ H : Hp, SqT K H q_SCHEMES v_SCHEMES
  q_EVERY : Addr
  m_EVERY : mg "EVERY" = some (.ref q_EVERY)
  t_EVERY : ∀ H : Hp, SqT K H q_EVERY v_EVERY
  q_USUAL_ORDER : Addr
  m_USUAL_ORDER : mg "USUAL_ORDER" = some (.ref q_USUAL_ORDER)
  t_USUAL_ORDER : ∀ H : Hp, SqT K H q_USUAL_ORDER v_USUAL_ORDER
  m_SHORTEST_MONTH : ∃ t, mg "SHORTEST_MONTH" = some (.int 28 t)
  m_MOST_COUNT : ∃ t, mg "MOST_COUNT" = some (.int 480 t)
  m_MOST_FREE : ∃ t, mg "MOST_FREE" = some (.int 479 t)
  m_MOST_GRACE : ∃ t, mg "MOST_GRACE" = some (.int 90 t)
  m_MOST_PART : ∃ t, mg "MOST_PART" = some (.int 1000 t)
  q_FIELD_NAMES : Addr
  m_FIELD_NAMES : mg "FIELD_NAMES" = some (.ref q_FIELD_NAMES)
  t_FIELD_NAMES : ∀ H : Hp, SqT K H q_FIELD_NAMES v_FIELD_NAMES
  z_str : mg "str" = none
  z_divmod : mg "divmod" = none
  z_len : mg "len" = none
  z_tuple : mg "tuple" = none
  z_sorted : mg "sorted" = none
  z_zip : mg "zip" = none
  z_any : mg "any" = none
  z_abs : mg "abs" = none
  z_range : mg "range" = none
  z_int : mg "int" = none
  z_min : mg "min" = none
  z_max : mg "max" = none
  z_isinstance : mg "isinstance" = none
  z_bool : mg "bool" = none
  z_list : mg "list" = none
section
variable {w : World} {K : PySem.W.Frag} {mg : Str → Option Value} {base : Heap}
theorem kit_BookError_BookError (T : Txt w K mg) : PySem.W.kitOne K (.ref T.c_BookError) (.ref T.c_BookError) = some true := T.e_BookError.kit T.y_BookError_BookError
theorem exm_BookError_BookError (T : Txt w K mg) : PySem.W.exmOne K (.ref T.c_BookError) (.ref T.c_BookError) = some true := T.e_BookError.exm T.y_BookError_BookError
theorem kit_BookError_OutOfRange (T : Txt w K mg) : PySem.W.kitOne K (.ref T.c_BookError) (.ref T.c_OutOfRange) = some false := T.e_OutOfRange.kit T.y_BookError_OutOfRange
theorem exm_BookError_OutOfRange (T : Txt w K mg) : PySem.W.exmOne K (.ref T.c_BookError) (.ref T.c_OutOfRange) = some false := T.e_OutOfRange.exm T.y_BookError_OutOfRange
theorem kit_BookError_UnknownName (T : Txt w K mg) : PySem.W.kitOne K (.ref T.c_BookError) (.ref T.c_UnknownName) = some false := T.e_UnknownName.kit T.y_BookError_UnknownName
theorem exm_BookError_UnknownName (T : Txt w K mg) : PySem.W.exmOne K (.ref T.c_BookError) (.ref T.c_UnknownName) = some false := T.e_UnknownName.exm T.y_BookError_UnknownName
theorem kit_BookError_BadName (T : Txt w K mg) : PySem.W.kitOne K (.ref T.c_BookError) (.ref T.c_BadName) = some false := T.e_BadName.kit T.y_BookError_BadName
theorem exm_BookError_BadName (T : Txt w K mg) : PySem.W.exmOne K (.ref T.c_BookError) (.ref T.c_BadName) = some false := T.e_BadName.exm T.y_BookError_BadName
theorem kit_OutOfRange_BookError (T : Txt w K mg) : PySem.W.kitOne K (.ref T.c_OutOfRange) (.ref T.c_BookError) = some true := T.e_BookError.kit T.y_OutOfRange_BookError
theorem exm_OutOfRange_BookError (T : Txt w K mg) : PySem.W.exmOne K (.ref T.c_OutOfRange) (.ref T.c_BookError) = some true := T.e_BookError.exm T.y_OutOfRange_BookError
theorem kit_OutOfRange_OutOfRange (T : Txt w K mg) : PySem.W.kitOne K (.ref T.c_OutOfRange) (.ref T.c_OutOfRange) = some true := T.e_OutOfRange.kit T.y_OutOfRange_OutOfRange
theorem exm_OutOfRange_OutOfRange (T : Txt w K mg) : PySem.W.exmOne K (.ref T.c_OutOfRange) (.ref T.c_OutOfRange) = some true := T.e_OutOfRange.exm T.y_OutOfRange_OutOfRange
theorem kit_OutOfRange_UnknownName (T : Txt w K mg) : PySem.W.kitOne K (.ref T.c_OutOfRange) (.ref T.c_UnknownName) = some false := T.e_UnknownName.kit T.y_OutOfRange_UnknownName
theorem exm_OutOfRange_UnknownName (T : Txt w K mg) : PySem.W.exmOne K (.ref T.c_OutOfRange) (.ref T.c_UnknownName) = some false := T.e_UnknownName.exm T.y_OutOfRange_UnknownName
theorem kit_OutOfRange_BadName (T : Txt w K mg) : PySem.W.kitOne K (.ref T.c_OutOfRange) (.ref T.c_BadName) = some false := T.e_BadName.kit T.y_OutOfRange_BadName
theorem exm_OutOfRange_BadName (T : Txt w K mg) : PySem.W.exmOne K (.ref T.c_OutOfRange) (.ref T.c_BadName) = some false := T.e_BadName.exm T.y_OutOfRange_BadName
theorem kit_UnknownName_BookError (T : Txt w K mg) : PySem.W.kitOne K (.ref T.c_UnknownName) (.ref T.c_BookError) = some true := T.e_BookError.kit T.y_UnknownName_BookError
theorem exm_UnknownName_BookError (T : Txt w K mg) : PySem.W.exmOne K (.ref T.c_UnknownName) (.ref T.c_BookError) = some true := T.e_BookError.exm T.y_UnknownName_BookError
theorem kit_UnknownName_OutOfRange (T : Txt w K mg) : PySem.W.kitOne K (.ref T.c_UnknownName) (.ref T.c_OutOfRange) = some false := T.e_OutOfRange.kit T.y_UnknownName_OutOfRange
theorem exm_UnknownName_OutOfRange (T : Txt w K mg) : PySem.W.exmOne K (.ref T.c_UnknownName) (.ref T.c_OutOfRange) = some false := T.e_OutOfRange.exm T.y_UnknownName_OutOfRange
theorem kit_UnknownName_UnknownName (T : Txt w K mg) : PySem.W.kitOne K (.ref T.c_UnknownName) (.ref T.c_UnknownName) = some true := T.e_UnknownName.kit T.y_UnknownName_UnknownName
theorem exm_UnknownName_UnknownName (T : Txt w K mg) : PySem.W.exmOne K (.ref T.c_UnknownName) (.ref T.c_UnknownName) = some true := T.e_UnknownName.exm T.y_UnknownName_UnknownName
theorem kit_UnknownName_BadName (T : Txt w K mg) : PySem.W.kitOne K (.ref T.c_UnknownName) (.ref T.c_BadName) = some false := T.e_BadName.kit T.y_UnknownName_BadName
theorem exm_UnknownName_BadName (T : Txt w K mg) : PySem.W.exmOne K (.ref T.c_UnknownName) (.ref T.c_BadName) = some false := T.e_BadName.exm T.y_UnknownName_BadName
theorem kit_BadName_BookError (T : Txt w K mg) : PySem.W.kitOne K (.ref T.c_BadName) (.ref T.c_BookError) = some true := T.e_BookError.kit T.y_BadName_BookError
theorem exm_BadName_BookError (T : Txt w K mg) : PySem.W.exmOne K (.ref T.c_BadName) (.ref T.c_BookError) = some true := T.e_BookError.exm T.y_BadName_BookError
theorem kit_BadName_OutOfRange (T : Txt w K mg) : PySem.W.kitOne K (.ref T.c_BadName) (.ref T.c_OutOfRange) = some false := T.e_OutOfRange.kit T.y_BadName_OutOfRange
theorem exm_BadName_OutOfRange (T : Txt w K mg) : PySem.W.exmOne K (.ref T.c_BadName) (.ref T.c_OutOfRange) = some false := T.e_OutOfRange.exm T.y_BadName_OutOfRange
theorem kit_BadName_UnknownName (T : Txt w K mg) : PySem.W.kitOne K (.ref T.c_BadName) (.ref T.c_UnknownName) = some false := T.e_UnknownName.kit T.y_BadName_UnknownName
theorem exm_BadName_UnknownName (T : Txt w K mg) : PySem.W.exmOne K (.ref T.c_BadName) (.ref T.c_UnknownName) = some false := T.e_UnknownName.exm T.y_BadName_UnknownName
theorem kit_BadName_BadName (T : Txt w K mg) : PySem.W.kitOne K (.ref T.c_BadName) (.ref T.c_BadName) = some true := T.e_BadName.kit T.y_BadName_BadName
theorem exm_BadName_BadName (T : Txt w K mg) : PySem.W.exmOne K (.ref T.c_BadName) (.ref T.c_BadName) = some true := T.e_BadName.exm T.y_BadName_BadName
local macro_rules | `(tactic| walk_at "kit") => `(tactic| first | exact kit_BookError_BookError (by assumption) | exact kit_BookError_OutOfRange (by assumption) | exact kit_BookError_UnknownName (by assumption) | exact kit_BookError_BadName (by assumption) | exact kit_OutOfRange_BookError (by assumption) | exact kit_OutOfRange_OutOfRange (by assumption) | exact kit_OutOfRange_UnknownName (by assumption) | exact kit_OutOfRange_BadName (by assumption) | exact kit_UnknownName_BookError (by assumption) | exact kit_UnknownName_OutOfRange (by assumption) | exact kit_UnknownName_UnknownName (by assumption) | exact kit_UnknownName_BadName (by assumption) | exact kit_BadName_BookError (by assumption) | exact kit_BadName_OutOfRange (by assumption) | exact kit_BadName_UnknownName (by assumption) | exact kit_BadName_BadName (by assumption))
local macro_rules | `(tactic| walk_at "exm") => `(tactic| first | exact exm_BookError_BookError (by assumption) | exact exm_BookError_OutOfRange (by assumption) | exact exm_BookError_UnknownName (by assumption) | exact exm_BookError_BadName (by assumption) | exact exm_OutOfRange_BookError (by assumption) | exact exm_OutOfRange_OutOfRange (by assumption) | exact exm_OutOfRange_UnknownName (by assumption) | exact exm_OutOfRange_BadName (by assumption) | exact exm_UnknownName_BookError (by assumption) | exact exm_UnknownName_OutOfRange (by assumption) | exact exm_UnknownName_UnknownName (by assumption) | exact exm_UnknownName_BadName (by assumption) | exact exm_BadName_BookError (by assumption) | exact exm_BadName_OutOfRange (by assumption) | exact exm_BadName_UnknownName (by assumption) | exact exm_BadName_BadName (by assumption))
local macro_rules | `(tactic| walk_at "exv") => `(tactic| first | exact Txt.yv_BookError (by assumption) | exact Txt.yv_OutOfRange (by assumption) | exact Txt.yv_UnknownName (by assumption) | exact Txt.yv_BadName (by assumption))
def f_OutOfRange : List V → List (Str × V) := fs1 "OutOfRange" "value"
theorem okx_OutOfRange (T : Txt w K mg) : ExcOk P w K mg base T.c_OutOfRange any1 f_OutOfRange 1 := by
  refine T.x_OutOfRange.ok (N := ["self", "value", "__class__"]) (ps := ["value"]) rfl rfl (NdefX.nscope_by (by decide +kernel)) rfl rfl (fun _ _ _ _ _ us hl => match us, hl with | [_, _], _ => rfl) (fun _ _ _ _ => rfl) (fun _ _ _ _ => rfl) (fun _ _ _ _ => rfl) (fun _ _ _ _ => ⟨_, rfl⟩) fun X cc cda fI L hK hN hE hO => ?_
  obtain ⟨_, _, _, _, _, _, _, _, _, _, _, _, _, _, _, _, _⟩ := X
  dsimp only at hK hN hE
  subst hK hN hE
  refine ⟨_, _, pa_cons pe_str pa_nil, pss_cons (ps_ost (pv 0) pe_str) (pss_one (ps_ost (pv 0) (pv 1))), fun a xs H Q hl ea hc q => ?_⟩
  obtain ⟨v, rfl⟩ : ∃ v, xs = [v] := match xs, hl with | [v], _ => ⟨v, rfl⟩
  exact ⟨(by show 1 ≤ 1000; decide), ea, two_stores hO T.n_OutOfRange_label T.n_OutOfRange_value ea (fun _ _ k => k) (fun _ _ k => ⟨_, rfl, k⟩) (fun _ _ k => ⟨_, rfl, k⟩) (fun _ _ k => ⟨_, rfl, k⟩) (fun d H' h1 h2 h3 h4 h5 => q d H' h1 h2 h3 h4 h5)⟩
def f_UnknownName : List V → List (Str × V) := fs1 "UnknownName" "name"
theorem okx_UnknownName (T : Txt w K mg) : ExcOk P w K mg base T.c_UnknownName text1 f_UnknownName 1 := by
  refine T.x_UnknownName.ok (N := ["self", "name", "__class__"]) (ps := ["name"]) rfl rfl (NdefX.nscope_by (by decide +kernel)) rfl rfl (fun _ _ _ _ _ us hl => match us, hl with | [_, _], _ => rfl) (fun _ _ _ _ => rfl) (fun _ _ _ _ => rfl) (fun _ _ _ _ => rfl) (fun _ _ _ _ => ⟨_, rfl⟩) fun X cc cda fI L hK hN hE hO => ?_
  obtain ⟨_, _, _, _, _, _, _, _, _, _, _, _, _, _, _, _, _⟩ := X
  dsimp only at hK hN hE
  subst hK hN hE
  refine ⟨_, _, pa_cons (pe_joined (.cons pe_str (.cons (pe_fmt (pv 1)) .nil))) pa_nil, pss_cons (ps_ost (pv 0) pe_str) (pss_one (ps_ost (pv 0) (pv 1))), fun a xs H Q hl ea hc q => ?_⟩
  obtain ⟨v, rfl⟩ : ∃ v, xs = [v] := match xs, hl with | [v], _ => ⟨v, rfl⟩
  obtain ⟨z, ez, hz⟩ := hc
  cases ez
  have tl := text_len "unknown name: " z (by decide +kernel) hz
  exact ⟨_, rfl, tl.1, _, rfl, .inl ⟨z, rfl, Nat.le_trans hz (by decide), ⟨z, rfl, tl.2, (by show 1 ≤ 1000; decide), ea, two_stores hO T.n_UnknownName_label T.n_UnknownName_name ea (fun _ _ k => k) (fun _ _ k => ⟨_, rfl, k⟩) (fun _ _ k => ⟨_, rfl, k⟩) (fun _ _ k => ⟨_, rfl, k⟩) (fun d H' h1 h2 h3 h4 h5 => q d H' h1 h2 h3 h4 h5)⟩⟩⟩
def f_BadName : List V → List (Str × V) := fs1 "BadName" "name"
theorem okx_BadName (T : Txt w K mg) : ExcOk P w K mg base T.c_BadName text1 f_BadName 1 := by
  refine T.x_BadName.ok (N := ["self", "name", "__class__"]) (ps := ["name"]) rfl rfl (NdefX.nscope_by (by decide +kernel)) rfl rfl (fun _ _ _ _ _ us hl => match us, hl with | [_, _], _ => rfl) (fun _ _ _ _ => rfl) (fun _ _ _ _ => rfl) (fun _ _ _ _ => rfl) (fun _ _ _ _ => ⟨_, rfl⟩) fun X cc cda fI L hK hN hE hO => ?_
  obtain ⟨_, _, _, _, _, _, _, _, _, _, _, _, _, _, _, _, _⟩ := X
  dsimp only at hK hN hE
  subst hK hN hE
  refine ⟨_, _, pa_cons (pe_joined (.cons pe_str (.cons (pe_fmt (pv 1)) .nil))) pa_nil, pss_cons (ps_ost (pv 0) pe_str) (pss_one (ps_ost (pv 0) (pv 1))), fun a xs H Q hl ea hc q => ?_⟩
  obtain ⟨v, rfl⟩ : ∃ v, xs = [v] := match xs, hl with | [v], _ => ⟨v, rfl⟩
  obtain ⟨z, ez, hz⟩ := hc
  cases ez
  have tl := text_len "not a name: " z (by decide +kernel) hz
  exact ⟨_, rfl, tl.1, _, rfl, .inl ⟨z, rfl, Nat.le_trans hz (by decide), ⟨z, rfl, tl.2, (by show 1 ≤ 1000; decide), ea, two_stores hO T.n_BadName_label T.n_BadName_name ea (fun _ _ k => k) (fun _ _ k => ⟨_, rfl, k⟩) (fun _ _ k => ⟨_, rfl, k⟩) (fun _ _ k => ⟨_, rfl, k⟩) (fun d H' h1 h2 h3 h4 h5 => q d H' h1 h2 h3 h4 h5)⟩⟩⟩
local macro_rules | `(tactic| walk_at "sqc") => `(tactic| first | exact Txt.t_RULES (by assumption) _ | exact Txt.t_MODES (by assumption) _ | exact Txt.t_SCHEMES (by assumption) _ | exact Txt.t_EVERY (by assumption) _ | exact Txt.t_USUAL_ORDER (by assumption) _ | exact Txt.t_FIELD_NAMES (by assumption) _)
local macro_rules | `(tactic| walk_at "sl") => `(tactic| first | assumption | (simp only [len_app]; rw [sizeLine_eq]; omega) | (rw [sizeLine_eq]; omega) | (rw [sizeLine_eq]; exact Nat.le_of_ble_eq_true (by rfl)))
local macro_rules | `(tactic| walk_at "call") => `(tactic| first | (apply lenS_go; (walk_at "sl")) | (apply leS_go) | (apply inC_go) | (apply niC_go) | (apply slS_go; (walk_at "sl")) | (apply addS_go; (walk_at "sl")) | (apply ixS_go; (walk_at "sl"); (assumption)))

local macro_rules | `(tactic| walk_at "ll") => `(tactic| first | (with_reducible assumption) | (with_reducible exact LL.emp) | ((with_reducible apply LL.app) <;> walk_at "ll") | (with_reducible exact LL.int (by omega)) | (with_reducible exact amt_len (by omega)) | (with_reducible exact pct_len (by omega)) | (with_reducible exact LL.lit (n := 60) (by decide +kernel)))
local macro_rules | `(tactic| walk_at "cond") => `(tactic| first | ((with_reducible apply LL.sz); (walk_at "ll"); decide) | (with_reducible exact log_ok (by omega)))
local macro_rules | `(tactic| walk_at "call") => `(tactic| ((with_reducible apply addL_go); (walk_at "ll"); (walk_at "ll"); decide))

theorem kb_Terms_0 (T : Txt w K mg) : ∃ mv : List Value, KBn K T.fd_Terms___init__ ["self", "name", "count", "every", "due_on", "calendar", "rule", "index", "rate", "lowest", "highest", "convention", "mode", "scheme", "free", "opening_fee", "opening_part", "period_fee", "late_fee", "grace", "early_part", "early_months", "order", "penalty"] 1 ["name", "count"] (fun us ws => us ++ pick [.inr 0, .inr 1, .inl 0, .inl 1, .inl 2, .inl 3, .inl 4, .inl 5, .inl 6, .inl 7, .inl 8, .inl 9, .inl 10, .inl 11, .inl 12, .inl 13, .inl 14, .inl 15, .inl 16, .inl 17, .inl 18, .inl 19, .inl 20] mv ws) (fun vs zs => vs ++ pick [.inr 0, .inr 1, .inl 0, .inl 1, .inl 2, .inl 3, .inl 4, .inl 5, .inl 6, .inl 7, .inl 8, .inl 9, .inl 10, .inl 11, .inl 12, .inl 13, .inl 14, .inl 15, .inl 16, .inl 17, .inl 18, .inl 19, .inl 20] ([("every", .int 1), ("due_on", .int 1), ("calendar", .str ""), ("rule", .str "none"), ("index", .str ""), ("rate", .int 0), ("lowest", .int 0), ("highest", .int 1000000), ("convention", .str "actual/365"), ("mode", .str "near"), ("scheme", .str "annuity"), ("free", .int 0), ("opening_fee", .int 0), ("opening_part", .int 0), ("period_fee", .int 0), ("late_fee", .int 0), ("grace", .int 5), ("early_part", .int 0), ("early_months", .int 0), ("order", .ref T.qk_Terms___init__), ("penalty", .int 0)].map (·.2)) zs) :=
  kb_kwo T.F_Terms___init__ "self" ["name", "count", "every", "due_on", "calendar", "rule", "index", "rate", "lowest", "highest", "convention", "mode", "scheme", "free", "opening_fee", "opening_part", "period_fee", "late_fee", "grace", "early_part", "early_months", "order", "penalty"] ["name", "count"] ["every", "due_on", "calendar", "rule", "index", "rate", "lowest", "highest", "convention", "mode", "scheme", "free", "opening_fee", "opening_part", "period_fee", "late_fee", "grace", "early_part", "early_months", "order", "penalty"] [("every", .int 1), ("due_on", .int 1), ("calendar", .str ""), ("rule", .str "none"), ("index", .str ""), ("rate", .int 0), ("lowest", .int 0), ("highest", .int 1000000), ("convention", .str "actual/365"), ("mode", .str "near"), ("scheme", .str "annuity"), ("free", .int 0), ("opening_fee", .int 0), ("opening_part", .int 0), ("period_fee", .int 0), ("late_fee", .int 0), ("grace", .int 5), ("early_part", .int 0), ("early_months", .int 0), ("order", .ref T.qk_Terms___init__), ("penalty", .int 0)] [.inr 0, .inr 1, .inl 0, .inl 1, .inl 2, .inl 3, .inl 4, .inl 5, .inl 6, .inl 7, .inl 8, .inl 9, .inl 10, .inl 11, .inl 12, .inl 13, .inl 14, .inl 15, .inl 16, .inl 17, .inl 18, .inl 19, .inl 20] rfl rfl rfl rfl rfl (by intro z; cases z) (fun q hq => List.Sublist.subset (List.Sublist.cons₂ _ (List.Sublist.cons₂ _ (List.Sublist.cons₂ _ (List.Sublist.cons₂ _ (List.Sublist.cons₂ _ (List.Sublist.cons₂ _ (List.Sublist.cons₂ _ (List.Sublist.cons₂ _ (List.Sublist.cons₂ _ (List.Sublist.cons₂ _ (List.Sublist.cons₂ _ (List.Sublist.cons₂ _ (List.Sublist.cons₂ _ (List.Sublist.cons₂ _ (List.Sublist.cons₂ _ (List.Sublist.cons₂ _ (List.Sublist.cons₂ _ (List.Sublist.cons₂ _ (List.Sublist.cons₂ _ (List.Sublist.cons₂ _ (List.Sublist.cons₂ _ List.Sublist.slnil))))))))))))))))))))) hq) rfl (by decide +kernel)
theorem kb_Terms_1 (T : Txt w K mg) : ∃ mv : List Value, KBn K T.fd_Terms___init__ ["self", "name", "count", "every", "due_on", "calendar", "rule", "index", "rate", "lowest", "highest", "convention", "mode", "scheme", "free", "opening_fee", "opening_part", "period_fee", "late_fee", "grace", "early_part", "early_months", "order", "penalty"] 1 ["name", "count", "every", "due_on", "calendar", "rule", "index", "rate", "lowest", "highest", "convention", "mode", "scheme", "free", "opening_fee", "opening_part", "period_fee", "late_fee", "grace", "early_part", "early_months", "order", "penalty"] (fun us ws => us ++ pick [.inr 0, .inr 1, .inr 2, .inr 3, .inr 4, .inr 5, .inr 6, .inr 7, .inr 8, .inr 9, .inr 10, .inr 11, .inr 12, .inr 13, .inr 14, .inr 15, .inr 16, .inr 17, .inr 18, .inr 19, .inr 20, .inr 21, .inr 22] mv ws) (fun vs zs => vs ++ pick [.inr 0, .inr 1, .inr 2, .inr 3, .inr 4, .inr 5, .inr 6, .inr 7, .inr 8, .inr 9, .inr 10, .inr 11, .inr 12, .inr 13, .inr 14, .inr 15, .inr 16, .inr 17, .inr 18, .inr 19, .inr 20, .inr 21, .inr 22] (([] : List (Str × V)).map (·.2)) zs) :=
  kb_kwo T.F_Terms___init__ "self" ["name", "count", "every", "due_on", "calendar", "rule", "index", "rate", "lowest", "highest", "convention", "mode", "scheme", "free", "opening_fee", "opening_part", "period_fee", "late_fee", "grace", "early_part", "early_months", "order", "penalty"] ["name", "count", "every", "due_on", "calendar", "rule", "index", "rate", "lowest", "highest", "convention", "mode", "scheme", "free", "opening_fee", "opening_part", "period_fee", "late_fee", "grace", "early_part", "early_months", "order", "penalty"] [] ([] : List (Str × V)) [.inr 0, .inr 1, .inr 2, .inr 3, .inr 4, .inr 5, .inr 6, .inr 7, .inr 8, .inr 9, .inr 10, .inr 11, .inr 12, .inr 13, .inr 14, .inr 15, .inr 16, .inr 17, .inr 18, .inr 19, .inr 20, .inr 21, .inr 22] rfl rfl rfl rfl rfl (by intro z; cases z) (fun q hq => List.Sublist.subset (List.Sublist.cons _ (List.Sublist.cons _ (List.Sublist.cons _ (List.Sublist.cons _ (List.Sublist.cons _ (List.Sublist.cons _ (List.Sublist.cons _ (List.Sublist.cons _ (List.Sublist.cons _ (List.Sublist.cons _ (List.Sublist.cons _ (List.Sublist.cons _ (List.Sublist.cons _ (List.Sublist.cons _ (List.Sublist.cons _ (List.Sublist.cons _ (List.Sublist.cons _ (List.Sublist.cons _ (List.Sublist.cons _ (List.Sublist.cons _ (List.Sublist.cons _ List.Sublist.slnil))))))))))))))))))))) hq) rfl (by decide +kernel)
local macro_rules | `(tactic| walk_at "fld") => `(tactic| first | (apply fld_go (f := "name") (C := Txt.c_Terms (by assumption)); (walk_at "hp"); (exact Txt.cl_Terms (by assumption)); (exact Txt.na_Terms_name (by assumption)); (exact rfl)) | (apply fld_go (f := "count") (C := Txt.c_Terms (by assumption)); (walk_at "hp"); (exact Txt.cl_Terms (by assumption)); (exact Txt.na_Terms_count (by assumption)); (exact rfl)) | (apply fld_go (f := "every") (C := Txt.c_Terms (by assumption)); (walk_at "hp"); (exact Txt.cl_Terms (by assumption)); (exact Txt.na_Terms_every (by assumption)); (exact rfl)) | (apply fld_go (f := "due_on") (C := Txt.c_Terms (by assumption)); (walk_at "hp"); (exact Txt.cl_Terms (by assumption)); (exact Txt.na_Terms_due_on (by assumption)); (exact rfl)) | (apply fld_go (f := "calendar") (C := Txt.c_Terms (by assumption)); (walk_at "hp"); (exact Txt.cl_Terms (by assumption)); (exact Txt.na_Terms_calendar (by assumption)); (exact rfl)) | (apply fld_go (f := "rule") (C := Txt.c_Terms (by assumption)); (walk_at "hp"); (exact Txt.cl_Terms (by assumption)); (exact Txt.na_Terms_rule (by assumption)); (exact rfl)) | (apply fld_go (f := "index") (C := Txt.c_Terms (by assumption)); (walk_at "hp"); (exact Txt.cl_Terms (by assumption)); (exact Txt.na_Terms_index (by assumption)); (exact rfl)) | (apply fld_go (f := "rate") (C := Txt.c_Terms (by assumption)); (walk_at "hp"); (exact Txt.cl_Terms (by assumption)); (exact Txt.na_Terms_rate (by assumption)); (exact rfl)) | (apply fld_go (f := "lowest") (C := Txt.c_Terms (by assumption)); (walk_at "hp"); (exact Txt.cl_Terms (by assumption)); (exact Txt.na_Terms_lowest (by assumption)); (exact rfl)) | (apply fld_go (f := "highest") (C := Txt.c_Terms (by assumption)); (walk_at "hp"); (exact Txt.cl_Terms (by assumption)); (exact Txt.na_Terms_highest (by assumption)); (exact rfl)) | (apply fld_go (f := "convention") (C := Txt.c_Terms (by assumption)); (walk_at "hp"); (exact Txt.cl_Terms (by assumption)); (exact Txt.na_Terms_convention (by assumption)); (exact rfl)) | (apply fld_go (f := "mode") (C := Txt.c_Terms (by assumption)); (walk_at "hp"); (exact Txt.cl_Terms (by assumption)); (exact Txt.na_Terms_mode (by assumption)); (exact rfl)) | (apply fld_go (f := "scheme") (C := Txt.c_Terms (by assumption)); (walk_at "hp"); (exact Txt.cl_Terms (by assumption)); (exact Txt.na_Terms_scheme (by assumption)); (exact rfl)) | (apply fld_go (f := "free") (C := Txt.c_Terms (by assumption)); (walk_at "hp"); (exact Txt.cl_Terms (by assumption)); (exact Txt.na_Terms_free (by assumption)); (exact rfl)) | (apply fld_go (f := "opening_fee") (C := Txt.c_Terms (by assumption)); (walk_at "hp"); (exact Txt.cl_Terms (by assumption)); (exact Txt.na_Terms_opening_fee (by assumption)); (exact rfl)) | (apply fld_go (f := "opening_part") (C := Txt.c_Terms (by assumption)); (walk_at "hp"); (exact Txt.cl_Terms (by assumption)); (exact Txt.na_Terms_opening_part (by assumption)); (exact rfl)) | (apply fld_go (f := "period_fee") (C := Txt.c_Terms (by assumption)); (walk_at "hp"); (exact Txt.cl_Terms (by assumption)); (exact Txt.na_Terms_period_fee (by assumption)); (exact rfl)) | (apply fld_go (f := "late_fee") (C := Txt.c_Terms (by assumption)); (walk_at "hp"); (exact Txt.cl_Terms (by assumption)); (exact Txt.na_Terms_late_fee (by assumption)); (exact rfl)) | (apply fld_go (f := "grace") (C := Txt.c_Terms (by assumption)); (walk_at "hp"); (exact Txt.cl_Terms (by assumption)); (exact Txt.na_Terms_grace (by assumption)); (exact rfl)) | (apply fld_go (f := "early_part") (C := Txt.c_Terms (by assumption)); (walk_at "hp"); (exact Txt.cl_Terms (by assumption)); (exact Txt.na_Terms_early_part (by assumption)); (exact rfl)) | (apply fld_go (f := "early_months") (C := Txt.c_Terms (by assumption)); (walk_at "hp"); (exact Txt.cl_Terms (by assumption)); (exact Txt.na_Terms_early_months (by assumption)); (exact rfl)) | (apply fld_go (f := "order") (C := Txt.c_Terms (by assumption)); (walk_at "hp"); (exact Txt.cl_Terms (by assumption)); (exact Txt.na_Terms_order (by assumption)); (exact rfl)) | (apply fld_go (f := "penalty") (C := Txt.c_Terms (by assumption)); (walk_at "hp"); (exact Txt.cl_Terms (by assumption)); (exact Txt.na_Terms_penalty (by assumption)); (exact rfl)))
local macro_rules | `(tactic| walk_at "setf") => `(tactic| first | (apply setf_go (f := "name") (C := Txt.c_Terms (by assumption)); (walk_at "hp"); (exact Txt.cl_Terms (by assumption)); (exact Txt.na_Terms_name (by assumption)); (exact Nat.le_of_ble_eq_true (by rfl))) | (apply setf_go (f := "count") (C := Txt.c_Terms (by assumption)); (walk_at "hp"); (exact Txt.cl_Terms (by assumption)); (exact Txt.na_Terms_count (by assumption)); (exact Nat.le_of_ble_eq_true (by rfl))) | (apply setf_go (f := "every") (C := Txt.c_Terms (by assumption)); (walk_at "hp"); (exact Txt.cl_Terms (by assumption)); (exact Txt.na_Terms_every (by assumption)); (exact Nat.le_of_ble_eq_true (by rfl))) | (apply setf_go (f := "due_on") (C := Txt.c_Terms (by assumption)); (walk_at "hp"); (exact Txt.cl_Terms (by assumption)); (exact Txt.na_Terms_due_on (by assumption)); (exact Nat.le_of_ble_eq_true (by rfl))) | (apply setf_go (f := "calendar") (C := Txt.c_Terms (by assumption)); (walk_at "hp"); (exact Txt.cl_Terms (by assumption)); (exact Txt.na_Terms_calendar (by assumption)); (exact Nat.le_of_ble_eq_true (by rfl))) | (apply setf_go (f := "rule") (C := Txt.c_Terms (by assumption)); (walk_at "hp"); (exact Txt.cl_Terms (by assumption)); (exact Txt.na_Terms_rule (by assumption)); (exact Nat.le_of_ble_eq_true (by rfl))) | (apply setf_go (f := "index") (C := Txt.c_Terms (by assumption)); (walk_at "hp"); (exact Txt.cl_Terms (by assumption)); (exact Txt.na_Terms_index (by assumption)); (exact Nat.le_of_ble_eq_true (by rfl))) | (apply setf_go (f := "rate") (C := Txt.c_Terms (by assumption)); (walk_at "hp"); (exact Txt.cl_Terms (by assumption)); (exact Txt.na_Terms_rate (by assumption)); (exact Nat.le_of_ble_eq_true (by rfl))) | (apply setf_go (f := "lowest") (C := Txt.c_Terms (by assumption)); (walk_at "hp"); (exact Txt.cl_Terms (by assumption)); (exact Txt.na_Terms_lowest (by assumption)); (exact Nat.le_of_ble_eq_true (by rfl))) | (apply setf_go (f := "highest") (C := Txt.c_Terms (by assumption)); (walk_at "hp"); (exact Txt.cl_Terms (by assumption)); (exact Txt.na_Terms_highest (by assumption)); (exact Nat.le_of_ble_eq_true (by rfl))) | (apply setf_go (f := "convention") (C := Txt.c_Terms (by assumption)); (walk_at "hp"); (exact Txt.cl_Terms (by assumption)); (exact Txt.na_Terms_convention (by assumption)); (exact Nat.le_of_ble_eq_true (by rfl))) | (apply setf_go (f := "mode") (C := Txt.c_Terms (by assumption)); (walk_at "hp"); (exact Txt.cl_Terms (by assumption)); (exact Txt.na_Terms_mode (by assumption)); (exact Nat.le_of_ble_eq_true (by rfl))) | (apply setf_go (f := "scheme") (C := Txt.c_Terms (by assumption)); (walk_at "hp"); (exact Txt.cl_Terms (by assumption)); (exact Txt.na_Terms_scheme (by assumption)); (exact Nat.le_of_ble_eq_true (by rfl))) | (apply setf_go (f := "free") (C := Txt.c_Terms (by assumption)); (walk_at "hp"); (exact Txt.cl_Terms (by assumption)); (exact Txt.na_Terms_free (by assumption)); (exact Nat.le_of_ble_eq_true (by rfl))) | (apply setf_go (f := "opening_fee") (C := Txt.c_Terms (by assumption)); (walk_at "hp"); (exact Txt.cl_Terms (by assumption)); (exact Txt.na_Terms_opening_fee (by assumption)); (exact Nat.le_of_ble_eq_true (by rfl))) | (apply setf_go (f := "opening_part") (C := Txt.c_Terms (by assumption)); (walk_at "hp"); (exact Txt.cl_Terms (by assumption)); (exact Txt.na_Terms_opening_part (by assumption)); (exact Nat.le_of_ble_eq_true (by rfl))) | (apply setf_go (f := "period_fee") (C := Txt.c_Terms (by assumption)); (walk_at "hp"); (exact Txt.cl_Terms (by assumption)); (exact Txt.na_Terms_period_fee (by assumption)); (exact Nat.le_of_ble_eq_true (by rfl))) | (apply setf_go (f := "late_fee") (C := Txt.c_Terms (by assumption)); (walk_at "hp"); (exact Txt.cl_Terms (by assumption)); (exact Txt.na_Terms_late_fee (by assumption)); (exact Nat.le_of_ble_eq_true (by rfl))) | (apply setf_go (f := "grace") (C := Txt.c_Terms (by assumption)); (walk_at "hp"); (exact Txt.cl_Terms (by assumption)); (exact Txt.na_Terms_grace (by assumption)); (exact Nat.le_of_ble_eq_true (by rfl))) | (apply setf_go (f := "early_part") (C := Txt.c_Terms (by assumption)); (walk_at "hp"); (exact Txt.cl_Terms (by assumption)); (exact Txt.na_Terms_early_part (by assumption)); (exact Nat.le_of_ble_eq_true (by rfl))) | (apply setf_go (f := "early_months") (C := Txt.c_Terms (by assumption)); (walk_at "hp"); (exact Txt.cl_Terms (by assumption)); (exact Txt.na_Terms_early_months (by assumption)); (exact Nat.le_of_ble_eq_true (by rfl))) | (apply setf_go (f := "order") (C := Txt.c_Terms (by assumption)); (walk_at "hp"); (exact Txt.cl_Terms (by assumption)); (exact Txt.na_Terms_order (by assumption)); (exact Nat.le_of_ble_eq_true (by rfl))) | (apply setf_go (f := "penalty") (C := Txt.c_Terms (by assumption)); (walk_at "hp"); (exact Txt.cl_Terms (by assumption)); (exact Txt.na_Terms_penalty (by assumption)); (exact Nat.le_of_ble_eq_true (by rfl))))
local macro_rules | `(tactic| walk_at "call") => `(tactic| first | (walk_at "fld") | (walk_at "setf"))
local macro_rules | `(tactic| walk_at "kat") => `(tactic| first | exact Txt.ka_PARTS (by assumption) _)
local macro_rules | `(tactic| walk_at "call") => `(tactic| first | (apply kin_go; (walk_at "kat")) | (apply kni_go; (walk_at "kat")))
/-- the ways out of a check of terms -/
def TermE (T : Txt w K mg) (E : XK) (H : Hp) (r : Option TErr) : Prop := ∀ H', Same H H' → ∀ d, H' d = none → match r with
  | none => True
  | some (.bad z) => E (.ref T.c_BadName) (some d) (upd H' d (.xd (f_BadName [.str z])))
  | some (.range i) => E (.ref T.c_OutOfRange) (some d) (upd H' d (.xd (f_OutOfRange [.int i])))
  | some (.name z) => E (.ref T.c_UnknownName) (some d) (upd H' d (.xd (f_UnknownName [.str z])))
section
variable {T : Txt w K mg} {E : XK} {H H' : Hp} {c : Bool} {e : TErr} {r : Option TErr}
theorem TermE.same (s : Same H H') (h : TermE T E H r) : TermE T E H' r := fun H2 s2 => h H2 (s.trans s2)
theorem TermE.t (h : TermE T E H (orE c e r)) (k : c = true) : TermE T E H r := by rw [orE_t k] at h; exact h
theorem TermE.f (h : TermE T E H (orE c e r)) (k : c = false) : TermE T E H (some e) := by rw [orE_f k] at h; exact h
theorem TermE.bt {v a b : Int} (h : TermE T E H (btw v a b r)) (h1 : a ≤ v) (h2 : v ≤ b) : TermE T E H r := by rw [btw_t h1 h2] at h; exact h
theorem TermE.bf {v a b : Int} (h : TermE T E H (btw v a b r)) (k : v < a ∨ b < v) : TermE T E H (some (.range v)) := by rw [btw_f k] at h; exact h
theorem TermE.charge {t : TM} (h : TermE T E H (chargeErr t r)) : TermE T E H (chargeErr t none) := by
  intro H' s d nd
  have h2 := h H' s d nd
  rw [charge_or] at h2
  cases e : chargeErr t none with
  | none => trivial
  | some x => rw [e] at h2; exact h2
end

/-! ### is_lower -/
@[irreducible] def sp_is_lower : Sp := fun vs H Q E => ∃ (c : Nat), vs = [.str ⟨#[c]⟩] ∧ (Q (.bl (lowC c)) H)
theorem ok_is_lower (T : Txt w K mg) : FnOk P w K mg base (L2.CX P w) 1 T.a_is_lower T.fd_is_lower ["character"] sp_is_lower := by
  refine T.F_is_lower.ok sc_is_lower (fun vs H Q E h => ?_) (fun cdv A outer s H vs Q E hr h => ?_)
  · unfold sp_is_lower at h
    obtain ⟨c, rfl, _⟩ := h
    rfl
  · unfold sp_is_lower at h
    obtain ⟨c, rfl, q⟩ := h
    refine ⟨_, (pss_one (ps_ret (pe_chain op_leS op_leS pe_str (pv 0) pe_str))), ?_⟩
    have e1 : ("a" : Str).cps.toList = [97] := by decide +kernel
    have e2 : ("z" : Str).cps.toList = [122] := by decide +kernel
    have e3 : (⟨#[c]⟩ : Str).cps.toList = [c] := rfl
    walk_at "rd"
    rw [e1, e3]
    refine iteDN (fun h => ?_) (fun h => ?_)
    · rw [lt_one] at h
      walk_at "rd"
      rw [e2, e3]
      refine q_bl q ?_
      unfold lowC
      rw [decide_eq_true (show 97 ≤ c by omega), Bool.true_and]
      by_cases k : c ≤ 122
      · rw [decide_eq_true k, decide_eq_false (by rw [lt_one]; omega)]; rfl
      · rw [decide_eq_false k, decide_eq_true (by rw [lt_one]; omega)]; rfl
    · rw [lt_one] at h
      refine q_bl q ?_
      unfold lowC
      rw [decide_eq_false (show ¬ 97 ≤ c by omega), Bool.false_and]
theorem is_lower_go {H : Hp} {Q : VK} {E : XK} {c : Nat} (q : Q (.bl (lowC c)) H) : sp_is_lower [.str ⟨#[c]⟩] H Q E := by
  unfold sp_is_lower
  exact ⟨c, rfl, q⟩
local macro_rules | `(tactic| walk_at "call") => `(tactic| (apply is_lower_go))

/-! ### is_digit -/
@[irreducible] def sp_is_digit : Sp := fun vs H Q E => ∃ (c : Nat), vs = [.str ⟨#[c]⟩] ∧ (Q (.bl (digC c)) H)
theorem ok_is_digit (T : Txt w K mg) : FnOk P w K mg base (L2.CX P w) 1 T.a_is_digit T.fd_is_digit ["character"] sp_is_digit := by
  refine T.F_is_digit.ok sc_is_digit (fun vs H Q E h => ?_) (fun cdv A outer s H vs Q E hr h => ?_)
  · unfold sp_is_digit at h
    obtain ⟨c, rfl, _⟩ := h
    rfl
  · unfold sp_is_digit at h
    obtain ⟨c, rfl, q⟩ := h
    refine ⟨_, (pss_one (ps_ret (pe_chain op_leS op_leS pe_str (pv 0) pe_str))), ?_⟩
    have e1 : ("0" : Str).cps.toList = [48] := by decide +kernel
    have e2 : ("9" : Str).cps.toList = [57] := by decide +kernel
    have e3 : (⟨#[c]⟩ : Str).cps.toList = [c] := rfl
    walk_at "rd"
    rw [e1, e3]
    refine iteDN (fun h => ?_) (fun h => ?_)
    · rw [lt_one] at h
      walk_at "rd"
      rw [e2, e3]
      refine q_bl q ?_
      unfold digC
      rw [decide_eq_true (show 48 ≤ c by omega), Bool.true_and]
      by_cases k : c ≤ 57
      · rw [decide_eq_true k, decide_eq_false (by rw [lt_one]; omega)]; rfl
      · rw [decide_eq_false k, decide_eq_true (by rw [lt_one]; omega)]; rfl
    · rw [lt_one] at h
      refine q_bl q ?_
      unfold digC
      rw [decide_eq_false (show ¬ 48 ≤ c by omega), Bool.false_and]
theorem is_digit_go {H : Hp} {Q : VK} {E : XK} {c : Nat} (q : Q (.bl (digC c)) H) : sp_is_digit [.str ⟨#[c]⟩] H Q E := by
  unfold sp_is_digit
  exact ⟨c, rfl, q⟩
local macro_rules | `(tactic| walk_at "call") => `(tactic| (apply is_digit_go))

/-! ### is_name -/
@[irreducible] def sp_is_name : Sp := fun vs H Q E => ∃ (z : Str), vs = [.str z] ∧ (z.length ≤ 1000000) ∧ (Q (.bl (nameB z)) H)
theorem ok_is_name (T : Txt w K mg) : FnOk P w K mg base (L2.CX P w) 2 T.a_is_name T.fd_is_name ["text"] sp_is_name := by
  refine T.F_is_name.ok sc_is_name (fun vs H Q E h => ?_) (fun cdv A outer s H vs Q E hr h => ?_)
  · unfold sp_is_name at h
    obtain ⟨z, rfl, _⟩ := h
    rfl
  · unfold sp_is_name at h
    obtain ⟨z, rfl, hz, q⟩ := h
    refine ⟨_, (pss_cons (ps_if (PW.pt (pw_or (pt_cmpR op_lt (pe_callB call_lenS rfl T.z_len bt_len (pa_cons (pv 0) pa_nil)) pe_int (nomark _)) (pw_or1 (pt_cmpR op_gt (pe_callB call_lenS rfl T.z_len bt_len (pa_cons (pv 0) pa_nil)) (pe_glob (v := .int 12) rfl T.m_NAME_LENGTH.choose_spec ⟨_, rfl⟩) (nomark _))))) (pss_one (ps_ret pe_bl)) pss_nil)
    (pss_cons (ps_if (pt_not (pt_val (pe_callS (ok_is_lower T) (hr.mono (by decide)) rfl T.m_is_lower T.F_is_lower.kp T.b_is_lower (fun σ => passAt (takes_of rfl rfl rfl rfl) σ) (pa_cons (pe_ix ix_ss (pv 0) pe_int (fun _ _ => rfl)) pa_nil)))) (pss_one (ps_ret pe_bl)) pss_nil)
    (pss_cons (ps_for (passes_of rfl) rfl (pi_str (pv 0)) (pg_name (i := 1) sc_is_name.nd rfl (Or.inl rfl))
      (pss_one (ps_if (PW.pt (pw_and (pt_not (pt_val (pe_callS (ok_is_lower T) (hr.mono (by decide)) rfl T.m_is_lower T.F_is_lower.kp T.b_is_lower (fun σ => passAt (takes_of rfl rfl rfl rfl) σ) (pa_cons (pv 1) pa_nil)))) (pw_and1 (pt_not (pt_val (pe_callS (ok_is_digit T) (hr.mono (by decide)) rfl T.m_is_digit T.F_is_digit.kp T.b_is_digit (fun σ => passAt (takes_of rfl rfl rfl rfl) σ) (pa_cons (pv 1) pa_nil))))))) (pss_one (ps_ret pe_bl)) pss_nil)))
    (pss_one (ps_ret pe_bl))))), ?_⟩
    walk_at "rd"
    refine iteD (fun c => ?_) (fun c => ?_)
    · walk_at "rd"
      exact q_bl q (nameB_no (by omega))
    walk_at "rd"
    refine iteD (fun c2 => ?_) (fun c2 => ?_)
    · walk_at "rd"
      exact q_bl q (nameB_no (by omega))
    obtain ⟨a, a1, a2, a3⟩ := atI_txt (z := z) (i := 0) 0 (by omega) rfl
    walk_at "rd"
    refine iteBN (fun c3 => ?_) (fun c3 => ?_)
    · walk_at "rd"
      refine q_bl q (nameB_no fun h => ?_)
      rw [head_of a1, c3] at h
      exact Bool.false_ne_true h.2.2.1
    walk_at "rd"
    refine for_txt (z := z) (fun i σ H' => Wall (H' = H ∧ ∃ u, σ = [some (.str z), u] ∧ ∀ j, j < i → ∀ c, z.cps.toList[j]? = some c → (lowC c || digC c) = true)) (wall ⟨rfl, _, rfl, fun j h => absurd h (Nat.not_lt_zero j)⟩) ?_ ?_
    · rintro i c σ H' hc ⟨w1⟩
      obtain ⟨rfl, u, rfl, hb⟩ := w1 trivial
      have step : (lowC c || digC c) = true → ∀ j, j < i + 1 → ∀ d, z.cps.toList[j]? = some d → (lowC d || digC d) = true := fun g j hj d hd => by
        by_cases e : j = i
        · subst e
          rw [hc] at hd
          cases hd
          exact g
        · exact hb j (by omega) d hd
      walk_at "rd"
      refine iteBN (fun c4 => ?_) (fun c4 => ?_)
      · walk_at "rd"
        refine iteBN (fun c5 => ?_) (fun c5 => ?_)
        · walk_at "rd"
          refine q_bl q (nameB_no fun h => ?_)
          have := h.2.2.2 c (List.mem_of_getElem? hc)
          rw [c4, c5] at this
          exact Bool.false_ne_true this
        · exact wall ⟨rfl, _, rfl, step (by rw [c5, Bool.or_true])⟩
      · exact wall ⟨rfl, _, rfl, step (by rw [c4, Bool.true_or])⟩
    · rintro σ H' ⟨w1⟩
      obtain ⟨rfl, u, rfl, hb⟩ := w1 trivial
      walk_at "rd"
      refine q_bl q (nameB_iff.mpr ⟨by omega, by omega, by rw [head_of a1]; exact c3, fun c hc => ?_⟩)
      obtain ⟨i, hi, e⟩ := List.mem_iff_getElem.mp hc
      exact hb i hi c (by rw [List.getElem?_eq_getElem hi, e])
theorem is_name_go {H : Hp} {Q : VK} {E : XK} {z : Str} (hz : z.length ≤ 1000000) (q : Q (.bl (nameB z)) H) : sp_is_name [.str z] H Q E := by
  unfold sp_is_name
  exact ⟨z, rfl, hz, q⟩
local macro_rules | `(tactic| walk_at "call") => `(tactic| (apply is_name_go; (first | assumption | omega)))

/-! ### check_name -/
@[irreducible] def sp_check_name (T : Txt w K mg) : Sp := fun vs H Q E => ∃ (z : Str), vs = [.str z] ∧ (z.length ≤ 1000000) ∧ (nameB z = false → ∀ d, H d = none → E (.ref T.c_BadName) (some d) (upd H d (.xd (f_BadName [.str z])))) ∧ (nameB z = true → Q (.str z) H)
theorem ok_check_name (T : Txt w K mg) : FnOk P w K mg base (L2.CX P w) 3 T.a_check_name T.fd_check_name ["text"] (sp_check_name T) := by
  refine T.F_check_name.ok sc_check_name (fun vs H Q E h => ?_) (fun cdv A outer s H vs Q E hr h => ?_)
  · unfold sp_check_name at h
    obtain ⟨z, rfl, _⟩ := h
    rfl
  · unfold sp_check_name at h
    obtain ⟨z, rfl, hz, e, q⟩ := h
    refine ⟨_, (pss_cons (ps_if (pt_not (pt_val (pe_callS (ok_is_name T) (hr.mono (by decide)) rfl T.m_is_name T.F_is_name.kp T.b_is_name (fun σ => passAt (takes_of rfl rfl rfl rfl) σ) (pa_cons (pv 0) pa_nil)))) (pss_one (ps_raiseX rfl (takes_of rfl rfl rfl rfl) (okx_BadName T) (by decide) (hr.mono (by decide)) rfl T.m_BadName (pa_cons (pv 0) pa_nil))) pss_nil)
    (pss_one (ps_ret (pv 0)))), ?_⟩
    walk_at "rd"
    refine iteBN (fun c => ?_) (fun c => ?_)
    · walk_at "rd"
      exact ⟨⟨z, rfl, hz⟩, e c⟩
    · walk_at "rd"
      exact q c
theorem check_name_go (T : Txt w K mg) {H : Hp} {Q : VK} {E : XK} {z : Str} (hz : z.length ≤ 1000000) (e : nameB z = false → ∀ d, H d = none → E (.ref T.c_BadName) (some d) (upd H d (.xd (f_BadName [.str z])))) (q : nameB z = true → Q (.str z) H) : sp_check_name T [.str z] H Q E := by
  unfold sp_check_name
  exact ⟨z, rfl, hz, e, q⟩

/-! ### check_between -/
@[irreducible] def sp_check_between (T : Txt w K mg) : Sp := fun vs H Q E => ∃ (v : Int) (a : Int) (b : Int), vs = [.int v, .int a, .int b] ∧ (v < a ∨ b < v → ∀ x, H x = none → E (.ref T.c_OutOfRange) (some x) (upd H x (.xd (f_OutOfRange [.int v])))) ∧ (a ≤ v → v ≤ b → Q .non H)
theorem ok_check_between (T : Txt w K mg) : FnOk P w K mg base (L2.CX P w) 3 T.a_check_between T.fd_check_between ["value", "least", "most"] (sp_check_between T) := by
  refine T.F_check_between.ok sc_check_between (fun vs H Q E h => ?_) (fun cdv A outer s H vs Q E hr h => ?_)
  · unfold sp_check_between at h
    obtain ⟨v, a, b, rfl, _⟩ := h
    rfl
  · unfold sp_check_between at h
    obtain ⟨v, a, b, rfl, h1, q⟩ := h
    refine ⟨_, (pss_one (ps_if (PW.pt (pw_or (pt_cmpR op_lt (pv 0) (pv 1) (nomark _)) (pw_or1 (pt_cmpR op_gt (pv 0) (pv 2) (nomark _))))) (pss_one (ps_raiseX rfl (takes_of rfl rfl rfl rfl) (okx_OutOfRange T) (by decide) (hr.mono (by decide)) rfl T.m_OutOfRange (pa_cons (pv 0) pa_nil))) pss_nil)), ?_⟩
    walk_at "rd"
    refine iteD (fun e => ?_) (fun e => ?_)
    · walk_at "rd"
      exact h1 (.inl e)
    walk_at "rd"
    refine iteD (fun e2 => ?_) (fun e2 => ?_)
    · walk_at "rd"
      exact h1 (.inr e2)
    exact q (by omega) (by omega)
theorem check_between_go (T : Txt w K mg) {H : Hp} {Q : VK} {E : XK} {v : Int} {a : Int} {b : Int} (h1 : v < a ∨ b < v → ∀ x, H x = none → E (.ref T.c_OutOfRange) (some x) (upd H x (.xd (f_OutOfRange [.int v])))) (q : a ≤ v → v ≤ b → Q .non H) : sp_check_between T [.int v, .int a, .int b] H Q E := by
  unfold sp_check_between
  exact ⟨v, a, b, rfl, h1, q⟩
theorem check_between_ok (T : Txt w K mg) {H : Hp} {Q : VK} {E : XK} {v : Int} {a : Int} {b : Int} (a1 : a ≤ v) (a2 : v ≤ b) (q : Q .non H) : sp_check_between T [.int v, .int a, .int b] H Q E := check_between_go T (fun z => by omega) fun _ _ => q
local macro_rules | `(tactic| walk_at "call") => `(tactic| (apply check_between_ok; (first | assumption | omega); (first | assumption | omega)))

/-! ### check_word -/
@[irreducible] def sp_check_word (T : Txt w K mg) : Sp := fun vs H Q E => ∃ (z : Str) (p : Addr) (ws : List V), vs = [.str z, .ref p] ∧ (z.length ≤ 1000000) ∧ (SqT K H p ws) ∧ (ws.all flatV = true) ∧ (inV (.str z) ws = false → ∀ d, H d = none → E (.ref T.c_UnknownName) (some d) (upd H d (.xd (f_UnknownName [.str z])))) ∧ (inV (.str z) ws = true → Q .non H)
theorem ok_check_word (T : Txt w K mg) : FnOk P w K mg base (L2.CX P w) 3 T.a_check_word T.fd_check_word ["value", "words"] (sp_check_word T) := by
  refine T.F_check_word.ok sc_check_word (fun vs H Q E h => ?_) (fun cdv A outer s H vs Q E hr h => ?_)
  · unfold sp_check_word at h
    obtain ⟨z, p, ws, rfl, _⟩ := h
    rfl
  · unfold sp_check_word at h
    obtain ⟨z, p, ws, rfl, hz, hp, hf, e, q⟩ := h
    refine ⟨_, (pss_one (ps_if (pt_cmpR op_notInS (pv 0) (pv 1) (by rfl)) (pss_one (ps_raiseX rfl (takes_of rfl rfl rfl rfl) (okx_UnknownName T) (by decide) (hr.mono (by decide)) rfl T.m_UnknownName (pa_cons (pv 0) pa_nil))) pss_nil)), ?_⟩
    walk_at "rd"
    refine iteBN (fun c => ?_) (fun c => ?_)
    · walk_at "rd"
      exact ⟨⟨z, rfl, hz⟩, e c⟩
    · exact q c
theorem check_word_go (T : Txt w K mg) {H : Hp} {Q : VK} {E : XK} {z : Str} {p : Addr} {ws : List V} (hz : z.length ≤ 1000000) (hp : SqT K H p ws) (hf : ws.all flatV = true) (e : inV (.str z) ws = false → ∀ d, H d = none → E (.ref T.c_UnknownName) (some d) (upd H d (.xd (f_UnknownName [.str z])))) (q : inV (.str z) ws = true → Q .non H) : sp_check_word T [.str z, .ref p] H Q E := by
  unfold sp_check_word
  exact ⟨z, p, ws, rfl, hz, hp, hf, e, q⟩

/-! ### check_convention -/
theorem kget_parts (z : Str) : kget kv_PARTS z = (partsOf z).map V.int := by
  unfold kv_PARTS partsOf
  simp only [kget]
  repeat' split
  all_goals first | rfl | (simp_all; done)
@[irreducible] def sp_check_convention (T : Txt w K mg) : Sp := fun vs H Q E => ∃ (z : Str), vs = [.str z] ∧ (partsOf z = none → z.length ≤ 1000000 ∧ ∀ d, H d = none → E (.ref T.c_UnknownName) (some d) (upd H d (.xd (f_UnknownName [.str z])))) ∧ (partsOf z ≠ none → Q .non H)
theorem ok_check_convention (T : Txt w K mg) : FnOk P w K mg base (L2.CX P w) 3 T.a_check_convention T.fd_check_convention ["convention"] (sp_check_convention T) := by
  refine T.F_check_convention.ok sc_check_convention (fun vs H Q E h => ?_) (fun cdv A outer s H vs Q E hr h => ?_)
  · unfold sp_check_convention at h
    obtain ⟨z, rfl, _⟩ := h
    rfl
  · unfold sp_check_convention at h
    obtain ⟨z, rfl, e0, q⟩ := h
    refine ⟨_, (pss_one (ps_if (pt_cmpR (op_kni T.kd_PARTS) (pv 0) (pe_glob (v := .ref T.q_PARTS) rfl T.m_PARTS rfl) (by rfl)) (pss_one (ps_raiseX rfl (takes_of rfl rfl rfl rfl) (okx_UnknownName T) (by decide) (hr.mono (by decide)) rfl T.m_UnknownName (pa_cons (pv 0) pa_nil))) pss_nil)), ?_⟩
    walk_at "rd"
    rw [kget_parts]
    cases e : partsOf z with
    | none =>
      walk_at "rd"
      exact ⟨⟨z, rfl, (e0 e).1⟩, (e0 e).2⟩
    | some v =>
      walk_at "rd"
      exact q (by rw [e]; intro h; cases h)
theorem check_convention_go (T : Txt w K mg) {H : Hp} {Q : VK} {E : XK} {z : Str} (e0 : partsOf z = none → z.length ≤ 1000000 ∧ ∀ d, H d = none → E (.ref T.c_UnknownName) (some d) (upd H d (.xd (f_UnknownName [.str z])))) (q : partsOf z ≠ none → Q .non H) : sp_check_convention T [.str z] H Q E := by
  unfold sp_check_convention
  exact ⟨z, rfl, e0, q⟩

/-! ### check_charges -/
@[irreducible] def sp_check_charges (T : Txt w K mg) : Sp := fun vs H Q E => ∃ (c : Addr) (dx : Addr) (t : TM), vs = [.ref c] ∧ (H c = some (.ins T.c_Terms dx t.flds)) ∧ (TermE T E H (chargeErr t none)) ∧ (chargeErr t none = none → Q .non H)
theorem ok_check_charges (T : Txt w K mg) : FnOk P w K mg base (L2.CX P w) 4 T.a_check_charges T.fd_check_charges ["terms"] (sp_check_charges T) := by
  refine T.F_check_charges.ok sc_check_charges (fun vs H Q E h => ?_) (fun cdv A outer s H vs Q E hr h => ?_)
  · unfold sp_check_charges at h
    obtain ⟨c, dx, t, rfl, _⟩ := h
    rfl
  · unfold sp_check_charges at h
    obtain ⟨c, dx, t, rfl, hc, e, q0⟩ := h
    refine ⟨_, (pss_cons (ps_expr (pe_callS (ok_check_between T) (hr.mono (by decide)) rfl T.m_check_between T.F_check_between.kp T.b_check_between (fun σ => passAt (takes_of rfl rfl rfl rfl) σ) (pa_cons (pe_fld (pv 0) rfl) (pa_cons pe_int (pa_cons (pe_glob (v := .int 1000000000000) rfl T.m_MOST_CENTS.choose_spec ⟨_, rfl⟩) pa_nil)))))
    (pss_cons (ps_expr (pe_callS (ok_check_between T) (hr.mono (by decide)) rfl T.m_check_between T.F_check_between.kp T.b_check_between (fun σ => passAt (takes_of rfl rfl rfl rfl) σ) (pa_cons (pe_fld (pv 0) rfl) (pa_cons pe_int (pa_cons (pe_glob (v := .int 1000) rfl T.m_MOST_PART.choose_spec ⟨_, rfl⟩) pa_nil)))))
    (pss_cons (ps_expr (pe_callS (ok_check_between T) (hr.mono (by decide)) rfl T.m_check_between T.F_check_between.kp T.b_check_between (fun σ => passAt (takes_of rfl rfl rfl rfl) σ) (pa_cons (pe_fld (pv 0) rfl) (pa_cons pe_int (pa_cons (pe_glob (v := .int 1000000000000) rfl T.m_MOST_CENTS.choose_spec ⟨_, rfl⟩) pa_nil)))))
    (pss_cons (ps_expr (pe_callS (ok_check_between T) (hr.mono (by decide)) rfl T.m_check_between T.F_check_between.kp T.b_check_between (fun σ => passAt (takes_of rfl rfl rfl rfl) σ) (pa_cons (pe_fld (pv 0) rfl) (pa_cons pe_int (pa_cons (pe_glob (v := .int 1000000000000) rfl T.m_MOST_CENTS.choose_spec ⟨_, rfl⟩) pa_nil)))))
    (pss_cons (ps_expr (pe_callS (ok_check_between T) (hr.mono (by decide)) rfl T.m_check_between T.F_check_between.kp T.b_check_between (fun σ => passAt (takes_of rfl rfl rfl rfl) σ) (pa_cons (pe_fld (pv 0) rfl) (pa_cons pe_int (pa_cons (pe_glob (v := .int 90) rfl T.m_MOST_GRACE.choose_spec ⟨_, rfl⟩) pa_nil)))))
    (pss_cons (ps_expr (pe_callS (ok_check_between T) (hr.mono (by decide)) rfl T.m_check_between T.F_check_between.kp T.b_check_between (fun σ => passAt (takes_of rfl rfl rfl rfl) σ) (pa_cons (pe_fld (pv 0) rfl) (pa_cons pe_int (pa_cons (pe_glob (v := .int 1000) rfl T.m_MOST_PART.choose_spec ⟨_, rfl⟩) pa_nil)))))
    (pss_one (ps_expr (pe_callS (ok_check_between T) (hr.mono (by decide)) rfl T.m_check_between T.F_check_between.kp T.b_check_between (fun σ => passAt (takes_of rfl rfl rfl rfl) σ) (pa_cons (pe_fld (pv 0) rfl) (pa_cons pe_int (pa_cons (pe_glob (v := .int 480) rfl T.m_MOST_COUNT.choose_spec ⟨_, rfl⟩) pa_nil)))))))))))), ?_⟩
    have q : NoErr (chargeErr t none) (Q .non H) := q0
    unfold chargeErr at e q
    unfold TM.flds at hc
    walk_at "rd"
    refine check_between_go T (fun z x hx => (e.bf z) _ (Same.refl _) x hx) fun h1 h2 => ?_
    replace e := e.bt h1 h2
    replace q := q.bt h1 h2
    walk_at "rd"
    refine check_between_go T (fun z x hx => (e.bf z) _ (Same.refl _) x hx) fun h1 h2 => ?_
    replace e := e.bt h1 h2
    replace q := q.bt h1 h2
    walk_at "rd"
    refine check_between_go T (fun z x hx => (e.bf z) _ (Same.refl _) x hx) fun h1 h2 => ?_
    replace e := e.bt h1 h2
    replace q := q.bt h1 h2
    walk_at "rd"
    refine check_between_go T (fun z x hx => (e.bf z) _ (Same.refl _) x hx) fun h1 h2 => ?_
    replace e := e.bt h1 h2
    replace q := q.bt h1 h2
    walk_at "rd"
    refine check_between_go T (fun z x hx => (e.bf z) _ (Same.refl _) x hx) fun h1 h2 => ?_
    replace e := e.bt h1 h2
    replace q := q.bt h1 h2
    walk_at "rd"
    refine check_between_go T (fun z x hx => (e.bf z) _ (Same.refl _) x hx) fun h1 h2 => ?_
    replace e := e.bt h1 h2
    replace q := q.bt h1 h2
    walk_at "rd"
    refine check_between_go T (fun z x hx => (e.bf z) _ (Same.refl _) x hx) fun h1 h2 => ?_
    replace e := e.bt h1 h2
    replace q := q.bt h1 h2
    exact q rfl
theorem check_charges_go (T : Txt w K mg) {H : Hp} {Q : VK} {E : XK} {c : Addr} {dx : Addr} {t : TM} (hc : H c = some (.ins T.c_Terms dx t.flds)) (e : TermE T E H (chargeErr t none)) (q0 : chargeErr t none = none → Q .non H) : sp_check_charges T [.ref c] H Q E := by
  unfold sp_check_charges
  exact ⟨c, dx, t, rfl, hc, e, q0⟩

/-! ### is_late_too_long -/
@[irreducible] def sp_is_late_too_long : Sp := fun vs H Q E => ∃ (a : Int) (b : Int) (c : Int), vs = [.int a, .int b, .int c] ∧ (Sz 64 c) ∧ (Q (.bl (decide (0 < a) && decide (28 * c ≤ b))) H)
theorem ok_is_late_too_long (T : Txt w K mg) : FnOk P w K mg base (L2.CX P w) 1 T.a_is_late_too_long T.fd_is_late_too_long ["late_fee", "grace", "every"] sp_is_late_too_long := by
  refine T.F_is_late_too_long.ok sc_is_late_too_long (fun vs H Q E h => ?_) (fun cdv A outer s H vs Q E hr h => ?_)
  · unfold sp_is_late_too_long at h
    obtain ⟨a, b, c, rfl, _⟩ := h
    rfl
  · unfold sp_is_late_too_long at h
    obtain ⟨a, b, c, rfl, h, q⟩ := h
    refine ⟨_, (pss_one (ps_ret (pe_and (pe_cmpR op_gt (pv 0) pe_int (nomark _)) (pe_one (pe_cmpR op_ge (pv 1) (pe_op op_mulB (pe_glob (v := .int 28) rfl T.m_SHORTEST_MONTH.choose_spec ⟨_, rfl⟩) (pv 2)) (nomark _)))))), ?_⟩
    walk_at "rd"
    refine iteD (fun h1 => ?_) (fun h1 => ?_)
    · rw [decide_eq_true h1, Bool.true_and] at q
      walk_at "rd"
      exact q
    · rw [decide_eq_false h1, Bool.false_and] at q
      exact q
theorem is_late_too_long_go {H : Hp} {Q : VK} {E : XK} {a : Int} {b : Int} {c : Int} (h : Sz 64 c) (q : Q (.bl (decide (0 < a) && decide (28 * c ≤ b))) H) : sp_is_late_too_long [.int a, .int b, .int c] H Q E := by
  unfold sp_is_late_too_long
  exact ⟨a, b, c, rfl, h, q⟩

/-! ### check_together -/
@[irreducible] def sp_check_together (T : Txt w K mg) : Sp := fun vs H Q E => ∃ (c : Addr) (dx : Addr) (t : TM), vs = [.ref c] ∧ (H c = some (.ins T.c_Terms dx t.flds)) ∧ (Sz 64 t.every) ∧ (TermE T E H (togetherErr t)) ∧ (togetherErr t = none → Q .non H)
theorem ok_check_together (T : Txt w K mg) : FnOk P w K mg base (L2.CX P w) 3 T.a_check_together T.fd_check_together ["terms"] (sp_check_together T) := by
  refine T.F_check_together.ok sc_check_together (fun vs H Q E h => ?_) (fun cdv A outer s H vs Q E hr h => ?_)
  · unfold sp_check_together at h
    obtain ⟨c, dx, t, rfl, _⟩ := h
    rfl
  · unfold sp_check_together at h
    obtain ⟨c, dx, t, rfl, hc, hs, e, q⟩ := h
    refine ⟨_, (pss_cons (ps_if (pt_cmpR op_ge (pe_fld (pv 0) rfl) (pe_fld (pv 0) rfl) (nomark _)) (pss_one (ps_raiseX rfl (takes_of rfl rfl rfl rfl) (okx_OutOfRange T) (by decide) (hr.mono (by decide)) rfl T.m_OutOfRange (pa_cons (pe_fld (pv 0) rfl) pa_nil))) pss_nil)
    (pss_cons (ps_if (pt_cmpR op_gt (pe_fld (pv 0) rfl) (pe_fld (pv 0) rfl) (nomark _)) (pss_one (ps_raiseX rfl (takes_of rfl rfl rfl rfl) (okx_OutOfRange T) (by decide) (hr.mono (by decide)) rfl T.m_OutOfRange (pa_cons (pe_fld (pv 0) rfl) pa_nil))) pss_nil)
    (pss_one (ps_if (pt_val (pe_callS (ok_is_late_too_long T) (hr.mono (by decide)) rfl T.m_is_late_too_long T.F_is_late_too_long.kp T.b_is_late_too_long (fun σ => passAt (takes_of rfl rfl rfl rfl) σ) (pa_cons (pe_fld (pv 0) rfl) (pa_cons (pe_fld (pv 0) rfl) (pa_cons (pe_fld (pv 0) rfl) pa_nil))))) (pss_one (ps_raiseX rfl (takes_of rfl rfl rfl rfl) (okx_OutOfRange T) (by decide) (hr.mono (by decide)) rfl T.m_OutOfRange (pa_cons (pe_fld (pv 0) rfl) pa_nil))) pss_nil)))), ?_⟩
    unfold TM.flds at hc
    unfold togetherErr at e q
    walk_at "rd"
    refine iteD (fun h1 => ?_) (fun h1 => ?_)
    · rw [if_pos (by omega)] at e
      walk_at "rd"
      exact fun x hx => e _ (Same.refl _) x hx
    rw [if_neg (by omega)] at e q
    walk_at "rd"
    refine iteD (fun h2 => ?_) (fun h2 => ?_)
    · rw [if_pos h2] at e
      walk_at "rd"
      exact fun x hx => e _ (Same.refl _) x hx
    rw [if_neg h2] at e q
    walk_at "rd"
    refine is_late_too_long_go hs ?_
    walk_at "rd"
    refine iteB (fun h3 => ?_) (fun h3 => ?_)
    · rw [Bool.and_eq_true, decide_eq_true_iff, decide_eq_true_iff] at h3
      rw [if_pos h3] at e
      walk_at "rd"
      exact fun x hx => e _ (Same.refl _) x hx
    · rw [if_neg (fun z => by rw [decide_eq_true z.1, decide_eq_true z.2] at h3; cases h3)] at q
      exact q rfl
theorem check_together_go (T : Txt w K mg) {H : Hp} {Q : VK} {E : XK} {c : Addr} {dx : Addr} {t : TM} (hc : H c = some (.ins T.c_Terms dx t.flds)) (hs : Sz 64 t.every) (e : TermE T E H (togetherErr t)) (q : togetherErr t = none → Q .non H) : sp_check_together T [.ref c] H Q E := by
  unfold sp_check_together
  exact ⟨c, dx, t, rfl, hc, hs, e, q⟩

/-! ### check_terms -/
@[irreducible] def sp_check_terms (T : Txt w K mg) : Sp := fun vs H Q E => ∃ (c : Addr) (dx : Addr) (t : TM) (os : List Str), vs = [.ref c] ∧ (H c = some (.ins T.c_Terms dx t.flds)) ∧ (SqT K H t.ord (os.map V.str)) ∧ (t.name.length ≤ 1000000) ∧ (t.cal.length ≤ 1000000) ∧ (t.rule.length ≤ 1000000) ∧ (t.index.length ≤ 1000000) ∧ (t.conv.length ≤ 1000000) ∧ (t.mode.length ≤ 1000000) ∧ (t.scheme.length ≤ 1000000) ∧ (os.length ≤ 60) ∧ (os.all okS = true) ∧ (TermE T E H (termErr t os)) ∧ (termErr t os = none → ∀ H', Same H H' → Q .non H')
theorem ok_check_terms (T : Txt w K mg) : FnOk P w K mg base (L2.CX P w) 5 T.a_check_terms T.fd_check_terms ["terms"] (sp_check_terms T) := by
  refine T.F_check_terms.ok sc_check_terms (fun vs H Q E h => ?_) (fun cdv A outer s H vs Q E hr h => ?_)
  · unfold sp_check_terms at h
    obtain ⟨c, dx, t, os, rfl, _⟩ := h
    rfl
  · unfold sp_check_terms at h
    obtain ⟨c, dx, t, os, rfl, hc, ho, l1, l2, l3, l4, l5, l6, l7, l8, l9, e, q0⟩ := h
    refine ⟨_, (pss_cons (ps_expr (pe_callS (ok_check_name T) (hr.mono (by decide)) rfl T.m_check_name T.F_check_name.kp T.b_check_name (fun σ => passAt (takes_of rfl rfl rfl rfl) σ) (pa_cons (pe_fld (pv 0) rfl) pa_nil)))
    (pss_cons (ps_expr (pe_callS (ok_check_between T) (hr.mono (by decide)) rfl T.m_check_between T.F_check_between.kp T.b_check_between (fun σ => passAt (takes_of rfl rfl rfl rfl) σ) (pa_cons (pe_fld (pv 0) rfl) (pa_cons pe_int (pa_cons (pe_glob (v := .int 480) rfl T.m_MOST_COUNT.choose_spec ⟨_, rfl⟩) pa_nil)))))
    (pss_cons (ps_if (pt_cmpR op_notInS (pe_fld (pv 0) rfl) (pe_glob (v := .ref T.q_EVERY) rfl T.m_EVERY rfl) (by rfl)) (pss_one (ps_raiseX rfl (takes_of rfl rfl rfl rfl) (okx_OutOfRange T) (by decide) (hr.mono (by decide)) rfl T.m_OutOfRange (pa_cons (pe_fld (pv 0) rfl) pa_nil))) pss_nil)
    (pss_cons (ps_expr (pe_callS (ok_check_between T) (hr.mono (by decide)) rfl T.m_check_between T.F_check_between.kp T.b_check_between (fun σ => passAt (takes_of rfl rfl rfl rfl) σ) (pa_cons (pe_fld (pv 0) rfl) (pa_cons pe_int (pa_cons pe_int pa_nil)))))
    (pss_cons (ps_cut (ps_if (pt_cmpR op_ne (pe_fld (pv 0) rfl) pe_str (nomark _)) (pss_one (ps_expr (pe_callS (ok_check_name T) (hr.mono (by decide)) rfl T.m_check_name T.F_check_name.kp T.b_check_name (fun σ => passAt (takes_of rfl rfl rfl rfl) σ) (pa_cons (pe_fld (pv 0) rfl) pa_nil)))) pss_nil))
    (pss_cons (ps_expr (pe_callS (ok_check_word T) (hr.mono (by decide)) rfl T.m_check_word T.F_check_word.kp T.b_check_word (fun σ => passAt (takes_of rfl rfl rfl rfl) σ) (pa_cons (pe_fld (pv 0) rfl) (pa_cons (pe_glob (v := .ref T.q_RULES) rfl T.m_RULES rfl) pa_nil))))
    (pss_cons (ps_cut (ps_if (pt_cmpR op_ne (pe_fld (pv 0) rfl) pe_str (nomark _)) (pss_one (ps_expr (pe_callS (ok_check_name T) (hr.mono (by decide)) rfl T.m_check_name T.F_check_name.kp T.b_check_name (fun σ => passAt (takes_of rfl rfl rfl rfl) σ) (pa_cons (pe_fld (pv 0) rfl) pa_nil)))) pss_nil))
    (pss_cons (ps_expr (pe_callS (ok_check_between T) (hr.mono (by decide)) rfl T.m_check_between T.F_check_between.kp T.b_check_between (fun σ => passAt (takes_of rfl rfl rfl rfl) σ) (pa_cons (pe_fld (pv 0) rfl) (pa_cons pe_int (pa_cons (pe_glob (v := .int 1000000) rfl T.m_MOST_RATE.choose_spec ⟨_, rfl⟩) pa_nil)))))
    (pss_cons (ps_expr (pe_callS (ok_check_between T) (hr.mono (by decide)) rfl T.m_check_between T.F_check_between.kp T.b_check_between (fun σ => passAt (takes_of rfl rfl rfl rfl) σ) (pa_cons (pe_fld (pv 0) rfl) (pa_cons pe_int (pa_cons (pe_glob (v := .int 1000000) rfl T.m_MOST_RATE.choose_spec ⟨_, rfl⟩) pa_nil)))))
    (pss_cons (ps_expr (pe_callS (ok_check_between T) (hr.mono (by decide)) rfl T.m_check_between T.F_check_between.kp T.b_check_between (fun σ => passAt (takes_of rfl rfl rfl rfl) σ) (pa_cons (pe_fld (pv 0) rfl) (pa_cons pe_int (pa_cons (pe_glob (v := .int 1000000) rfl T.m_MOST_RATE.choose_spec ⟨_, rfl⟩) pa_nil)))))
    (pss_cons (ps_expr (pe_callS (ok_check_convention T) (hr.mono (by decide)) rfl T.m_check_convention T.F_check_convention.kp T.b_check_convention (fun σ => passAt (takes_of rfl rfl rfl rfl) σ) (pa_cons (pe_fld (pv 0) rfl) pa_nil)))
    (pss_cons (ps_expr (pe_callS (ok_check_word T) (hr.mono (by decide)) rfl T.m_check_word T.F_check_word.kp T.b_check_word (fun σ => passAt (takes_of rfl rfl rfl rfl) σ) (pa_cons (pe_fld (pv 0) rfl) (pa_cons (pe_glob (v := .ref T.q_MODES) rfl T.m_MODES rfl) pa_nil))))
    (pss_cons (ps_expr (pe_callS (ok_check_word T) (hr.mono (by decide)) rfl T.m_check_word T.F_check_word.kp T.b_check_word (fun σ => passAt (takes_of rfl rfl rfl rfl) σ) (pa_cons (pe_fld (pv 0) rfl) (pa_cons (pe_glob (v := .ref T.q_SCHEMES) rfl T.m_SCHEMES rfl) pa_nil))))
    (pss_cons (ps_expr (pe_callS (ok_check_between T) (hr.mono (by decide)) rfl T.m_check_between T.F_check_between.kp T.b_check_between (fun σ => passAt (takes_of rfl rfl rfl rfl) σ) (pa_cons (pe_fld (pv 0) rfl) (pa_cons pe_int (pa_cons (pe_glob (v := .int 479) rfl T.m_MOST_FREE.choose_spec ⟨_, rfl⟩) pa_nil)))))
    (pss_cons (ps_expr (pe_callS (ok_check_charges T) (hr.mono (by decide)) rfl T.m_check_charges T.F_check_charges.kp T.b_check_charges (fun σ => passAt (takes_of rfl rfl rfl rfl) σ) (pa_cons (pv 0) pa_nil)))
    (pss_cons (ps_if (pt_cmpR (op_neD hr.units) (pe_callTy call_to rfl T.z_tuple bt_tuple (pa_cons (pe_callB call_srtTS rfl T.z_sorted bt_sorted (pa_cons (pe_fld (pv 0) rfl) pa_nil)) pa_nil)) (pe_glob (v := .ref T.q_USUAL_ORDER) rfl T.m_USUAL_ORDER rfl) (nomark _)) (pss_one (ps_raiseX rfl (takes_of rfl rfl rfl rfl) (okx_UnknownName T) (by decide) (hr.mono (by decide)) rfl T.m_UnknownName (pa_cons pe_str pa_nil))) pss_nil)
    (pss_cons (ps_expr (pe_callS (ok_check_between T) (hr.mono (by decide)) rfl T.m_check_between T.F_check_between.kp T.b_check_between (fun σ => passAt (takes_of rfl rfl rfl rfl) σ) (pa_cons (pe_fld (pv 0) rfl) (pa_cons pe_int (pa_cons (pe_glob (v := .int 1000000) rfl T.m_MOST_RATE.choose_spec ⟨_, rfl⟩) pa_nil)))))
    (pss_one (ps_expr (pe_callS (ok_check_together T) (hr.mono (by decide)) rfl T.m_check_together T.F_check_together.kp T.b_check_together (fun σ => passAt (takes_of rfl rfl rfl rfl) σ) (pa_cons (pv 0) pa_nil))))))))))))))))))))), ?_⟩
    have q : NoErr (termErr t os) (∀ H', Same H H' → Q .non H') := q0
    clear q0
    unfold termErr at e q
    have hc0 := hc
    unfold TM.flds at hc
    walk_at "rd"
    refine check_name_go T l1 (fun z x hx => (e.f z) _ (Same.refl _) x hx) fun h1 => ?_
    replace e := e.t h1
    replace q := q.t h1
    walk_at "rd"
    refine check_between_go T (fun z x hx => (e.bf z) _ (Same.refl _) x hx) fun h1 h2 => ?_
    replace e := e.bt h1 h2
    replace q := q.bt h1 h2
    walk_at "rd"
    refine iteBN (fun h1 => ?_) (fun h1 => ?_)
    · walk_at "rd"
      exact fun x hx => (e.f h1) _ (Same.refl _) x hx
    have hev : Sz 64 t.every := every_sz h1
    replace e := e.t h1
    replace q := q.t h1
    walk_at "rd"
    refine check_between_go T (fun z x hx => (e.bf z) _ (Same.refl _) x hx) fun h1 h2 => ?_
    replace e := e.bt h1 h2
    replace q := q.bt h1 h2
    walk_at "rd"
    refine ⟨fun σ' H' => Wall (H = H' ∧ σ' = [some (.ref c)] ∧ (t.cal == "" || nameB t.cal) = true), ?_, ?_⟩
    · walk_at "rd"
      refine iteSN (fun h1 => ?_) (fun h1 => ?_)
      · have b1 : (t.cal == "") = false := by simpa using h1
        walk_at "rd"
        refine check_name_go T l2 (fun z x hx => (e.f (by rw [b1, z]; rfl)) _ (Same.refl _) x hx) fun h2 => ?_
        exact wall ⟨rfl, rfl, by rw [h2, Bool.or_true]⟩
      · exact wall ⟨rfl, rfl, by rw [h1]; rfl⟩
    rintro σ H1 ⟨w1⟩
    obtain ⟨rfl, rfl, b1⟩ := w1 trivial
    clear w1
    replace e := e.t b1
    replace q := q.t b1
    walk_at "rd"
    refine check_word_go T l3 (T.t_RULES _) rfl (fun z x hx => (e.f z) _ (Same.refl _) x hx) fun h1 => ?_
    replace e := e.t h1
    replace q := q.t h1
    walk_at "rd"
    refine ⟨fun σ' H' => Wall (H = H' ∧ σ' = [some (.ref c)] ∧ (t.index == "" || nameB t.index) = true), ?_, ?_⟩
    · walk_at "rd"
      refine iteSN (fun h1 => ?_) (fun h1 => ?_)
      · have b1 : (t.index == "") = false := by simpa using h1
        walk_at "rd"
        refine check_name_go T l4 (fun z x hx => (e.f (by rw [b1, z]; rfl)) _ (Same.refl _) x hx) fun h2 => ?_
        exact wall ⟨rfl, rfl, by rw [h2, Bool.or_true]⟩
      · exact wall ⟨rfl, rfl, by rw [h1]; rfl⟩
    rintro σ H1 ⟨w1⟩
    obtain ⟨rfl, rfl, b1⟩ := w1 trivial
    clear w1
    replace e := e.t b1
    replace q := q.t b1
    walk_at "rd"
    refine check_between_go T (fun z x hx => (e.bf z) _ (Same.refl _) x hx) fun h1 h2 => ?_
    replace e := e.bt h1 h2
    replace q := q.bt h1 h2
    walk_at "rd"
    refine check_between_go T (fun z x hx => (e.bf z) _ (Same.refl _) x hx) fun h1 h2 => ?_
    replace e := e.bt h1 h2
    replace q := q.bt h1 h2
    walk_at "rd"
    refine check_between_go T (fun z x hx => (e.bf z) _ (Same.refl _) x hx) fun h1 h2 => ?_
    replace e := e.bt h1 h2
    replace q := q.bt h1 h2
    walk_at "rd"
    refine check_convention_go T (fun z => ⟨l5, fun x hx => (e.f (by rw [z]; rfl)) _ (Same.refl _) x hx⟩) fun h1 => ?_
    replace e := e.t (decide_eq_true h1)
    replace q := q.t (decide_eq_true h1)
    walk_at "rd"
    refine check_word_go T l6 (T.t_MODES _) rfl (fun z x hx => (e.f z) _ (Same.refl _) x hx) fun h1 => ?_
    replace e := e.t h1
    replace q := q.t h1
    walk_at "rd"
    refine check_word_go T l7 (T.t_SCHEMES _) rfl (fun z x hx => (e.f z) _ (Same.refl _) x hx) fun h1 => ?_
    replace e := e.t h1
    replace q := q.t h1
    walk_at "rd"
    refine check_between_go T (fun z x hx => (e.bf z) _ (Same.refl _) x hx) fun h1 h2 => ?_
    replace e := e.bt h1 h2
    replace q := q.bt h1 h2
    walk_at "rd"
    refine check_charges_go T hc0 e.charge fun h1 => ?_
    rw [charge_or, h1, Option.none_or] at e q
    walk_at "rd"
    refine srtTS_go ho (by omega) fun ys p hpm hsrt np => ?_
    walk_at "rd"
    refine toT_go (l_of upd_same) fun p2 H1 np2 s2 e2 => ?_
    have s1 : Same H H1 := (same_new (Same.refl _) np).trans s2
    have hc1 := s1 _ _ hc
    have hc01 := s1 _ _ hc0
    have eU : v_USUAL_ORDER = usualO.map V.str := rfl
    have fy : (ys.map V.str).all flatS = true := by
      rw [List.all_map, List.all_eq_true]
      exact fun z hz => List.all_eq_true.mp l9 z (hpm.mem_iff.mp hz)
    walk_at "rx"
    refine neD_T (t_of e2) (T.t_USUAL_ORDER _) fy (by rw [eU]; decide +kernel) ?_
    rw [eU, eqL_iff sharpS sharpS]
    refine ⟨_, rfl, ?_⟩
    refine iteBN (fun h1 => ?_) (fun h1 => ?_)
    · walk_at "rd"
      rw [decide_eq_false_iff_not] at h1
      have h2 : decide (os.Perm usualO) = false := decide_eq_false fun z => h1 (congrArg _ ((usual_iff hpm hsrt).mpr z))
      exact ⟨⟨_, rfl, by decide +kernel⟩, fun x hx => (e.f h2) _ s1 x hx⟩
    rw [decide_eq_true_iff] at h1
    have h2 : decide (os.Perm usualO) = true := decide_eq_true ((usual_iff hpm hsrt).mp (Str.eq_of_map h1))
    replace e := (e.t h2).same s1
    replace q := q.t h2
    walk_at "rd"
    refine check_between_go T (fun z x hx => (e.bf z) _ (Same.refl _) x hx) fun h1 h2 => ?_
    replace e := e.bt h1 h2
    replace q := q.bt h1 h2
    walk_at "rd"
    exact check_together_go T hc01 hev e fun h1 => q h1 _ s1
theorem check_terms_go (T : Txt w K mg) {H : Hp} {Q : VK} {E : XK} {c : Addr} {dx : Addr} {t : TM} {os : List Str} (hc : H c = some (.ins T.c_Terms dx t.flds)) (ho : SqT K H t.ord (os.map V.str)) (l1 : t.name.length ≤ 1000000) (l2 : t.cal.length ≤ 1000000) (l3 : t.rule.length ≤ 1000000) (l4 : t.index.length ≤ 1000000) (l5 : t.conv.length ≤ 1000000) (l6 : t.mode.length ≤ 1000000) (l7 : t.scheme.length ≤ 1000000) (l8 : os.length ≤ 60) (l9 : os.all okS = true) (e : TermE T E H (termErr t os)) (q0 : termErr t os = none → ∀ H', Same H H' → Q .non H') : sp_check_terms T [.ref c] H Q E := by
  unfold sp_check_terms
  exact ⟨c, dx, t, os, rfl, hc, ho, l1, l2, l3, l4, l5, l6, l7, l8, l9, e, q0⟩

/-! ### Terms___init__ -/
@[irreducible] def sp_Terms___init__ (T : Txt w K mg) : Sp := fun vs H Q E => ∃ (c : Addr) (dx : Addr) (t : TM) (os : List Str), vs = (.ref c :: t.vals) ∧ (H c = some (.ins T.c_Terms dx [])) ∧ (SqT K H t.ord (os.map V.str)) ∧ (t.name.length ≤ 1000000) ∧ (t.cal.length ≤ 1000000) ∧ (t.rule.length ≤ 1000000) ∧ (t.index.length ≤ 1000000) ∧ (t.conv.length ≤ 1000000) ∧ (t.mode.length ≤ 1000000) ∧ (t.scheme.length ≤ 1000000) ∧ (os.length ≤ 60) ∧ (os.all okS = true) ∧ (∀ H', (∀ b o, b ≠ c → H b = some o → H' b = some o) → TermE T E H' (termErr t os)) ∧ (∀ H', (∀ b o, b ≠ c → H b = some o → H' b = some o) → TermsAt K T.c_Terms H' c t os → Q .non H')
theorem ok_Terms___init__ (T : Txt w K mg) : FnOk P w K mg base (L2.CX P w) 6 T.a_Terms___init__ T.fd_Terms___init__ ["self", "name", "count", "every", "due_on", "calendar", "rule", "index", "rate", "lowest", "highest", "convention", "mode", "scheme", "free", "opening_fee", "opening_part", "period_fee", "late_fee", "grace", "early_part", "early_months", "order", "penalty"] (sp_Terms___init__ T) := by
  refine T.F_Terms___init__.ok sc_Terms___init__ (fun vs H Q E h => ?_) (fun cdv A outer s H vs Q E hr h => ?_)
  · unfold sp_Terms___init__ at h
    obtain ⟨c, dx, t, os, rfl, _⟩ := h
    rfl
  · unfold sp_Terms___init__ at h
    obtain ⟨c, dx, t, os, rfl, hc, ho, l1, l2, l3, l4, l5, l6, l7, l8, l9, e, q⟩ := h
    refine ⟨_, (pss_cons (ps_fld (pv 0) (pv 1) rfl)
    (pss_cons (ps_fld (pv 0) (pv 2) rfl)
    (pss_cons (ps_fld (pv 0) (pv 3) rfl)
    (pss_cons (ps_fld (pv 0) (pv 4) rfl)
    (pss_cons (ps_fld (pv 0) (pv 5) rfl)
    (pss_cons (ps_fld (pv 0) (pv 6) rfl)
    (pss_cons (ps_fld (pv 0) (pv 7) rfl)
    (pss_cons (ps_fld (pv 0) (pv 8) rfl)
    (pss_cons (ps_fld (pv 0) (pv 9) rfl)
    (pss_cons (ps_fld (pv 0) (pv 10) rfl)
    (pss_cons (ps_fld (pv 0) (pv 11) rfl)
    (pss_cons (ps_fld (pv 0) (pv 12) rfl)
    (pss_cons (ps_fld (pv 0) (pv 13) rfl)
    (pss_cons (ps_fld (pv 0) (pv 14) rfl)
    (pss_cons (ps_fld (pv 0) (pv 15) rfl)
    (pss_cons (ps_fld (pv 0) (pv 16) rfl)
    (pss_cons (ps_fld (pv 0) (pv 17) rfl)
    (pss_cons (ps_fld (pv 0) (pv 18) rfl)
    (pss_cons (ps_fld (pv 0) (pv 19) rfl)
    (pss_cons (ps_fld (pv 0) (pv 20) rfl)
    (pss_cons (ps_fld (pv 0) (pv 21) rfl)
    (pss_cons (ps_fld (pv 0) (pv 22) rfl)
    (pss_cons (ps_fld (pv 0) (pv 23) rfl)
    (pss_one (ps_expr (pe_callS (ok_check_terms T) (hr.mono (by decide)) rfl T.m_check_terms T.F_check_terms.kp T.b_check_terms (fun σ => passAt (takes_of rfl rfl rfl rfl) σ) (pa_cons (pv 0) pa_nil))))))))))))))))))))))))))), ?_⟩
    unfold TM.vals
    have e0 : H c = some (.ins T.c_Terms dx (t.flds.take 0)) := hc
    have f0 : ∀ b, b ≠ c → H b = H b := fun _ _ => rfl
    refine ⟨_, rfl, ?_⟩
    refine ⟨_, rfl, ?_⟩
    refine stf_go e0 f0 T.cl_Terms T.na_Terms_name (Nat.le_of_ble_eq_true (by rfl)) (fs' := t.flds.take 1) rfl fun H1 e1 f1 => ?_
    clear e0 f0
    refine ⟨_, rfl, ?_⟩
    refine ⟨_, rfl, ?_⟩
    refine stf_go e1 f1 T.cl_Terms T.na_Terms_count (Nat.le_of_ble_eq_true (by rfl)) (fs' := t.flds.take 2) rfl fun H2 e2 f2 => ?_
    clear e1 f1
    refine ⟨_, rfl, ?_⟩
    refine ⟨_, rfl, ?_⟩
    refine stf_go e2 f2 T.cl_Terms T.na_Terms_every (Nat.le_of_ble_eq_true (by rfl)) (fs' := t.flds.take 3) rfl fun H3 e3 f3 => ?_
    clear e2 f2
    refine ⟨_, rfl, ?_⟩
    refine ⟨_, rfl, ?_⟩
    refine stf_go e3 f3 T.cl_Terms T.na_Terms_due_on (Nat.le_of_ble_eq_true (by rfl)) (fs' := t.flds.take 4) rfl fun H4 e4 f4 => ?_
    clear e3 f3
    refine ⟨_, rfl, ?_⟩
    refine ⟨_, rfl, ?_⟩
    refine stf_go e4 f4 T.cl_Terms T.na_Terms_calendar (Nat.le_of_ble_eq_true (by rfl)) (fs' := t.flds.take 5) rfl fun H5 e5 f5 => ?_
    clear e4 f4
    refine ⟨_, rfl, ?_⟩
    refine ⟨_, rfl, ?_⟩
    refine stf_go e5 f5 T.cl_Terms T.na_Terms_rule (Nat.le_of_ble_eq_true (by rfl)) (fs' := t.flds.take 6) rfl fun H6 e6 f6 => ?_
    clear e5 f5
    refine ⟨_, rfl, ?_⟩
    refine ⟨_, rfl, ?_⟩
    refine stf_go e6 f6 T.cl_Terms T.na_Terms_index (Nat.le_of_ble_eq_true (by rfl)) (fs' := t.flds.take 7) rfl fun H7 e7 f7 => ?_
    clear e6 f6
    refine ⟨_, rfl, ?_⟩
    refine ⟨_, rfl, ?_⟩
    refine stf_go e7 f7 T.cl_Terms T.na_Terms_rate (Nat.le_of_ble_eq_true (by rfl)) (fs' := t.flds.take 8) rfl fun H8 e8 f8 => ?_
    clear e7 f7
    refine ⟨_, rfl, ?_⟩
    refine ⟨_, rfl, ?_⟩
    refine stf_go e8 f8 T.cl_Terms T.na_Terms_lowest (Nat.le_of_ble_eq_true (by rfl)) (fs' := t.flds.take 9) rfl fun H9 e9 f9 => ?_
    clear e8 f8
    refine ⟨_, rfl, ?_⟩
    refine ⟨_, rfl, ?_⟩
    refine stf_go e9 f9 T.cl_Terms T.na_Terms_highest (Nat.le_of_ble_eq_true (by rfl)) (fs' := t.flds.take 10) rfl fun H10 e10 f10 => ?_
    clear e9 f9
    refine ⟨_, rfl, ?_⟩
    refine ⟨_, rfl, ?_⟩
    refine stf_go e10 f10 T.cl_Terms T.na_Terms_convention (Nat.le_of_ble_eq_true (by rfl)) (fs' := t.flds.take 11) rfl fun H11 e11 f11 => ?_
    clear e10 f10
    refine ⟨_, rfl, ?_⟩
    refine ⟨_, rfl, ?_⟩
    refine stf_go e11 f11 T.cl_Terms T.na_Terms_mode (Nat.le_of_ble_eq_true (by rfl)) (fs' := t.flds.take 12) rfl fun H12 e12 f12 => ?_
    clear e11 f11
    refine ⟨_, rfl, ?_⟩
    refine ⟨_, rfl, ?_⟩
    refine stf_go e12 f12 T.cl_Terms T.na_Terms_scheme (Nat.le_of_ble_eq_true (by rfl)) (fs' := t.flds.take 13) rfl fun H13 e13 f13 => ?_
    clear e12 f12
    refine ⟨_, rfl, ?_⟩
    refine ⟨_, rfl, ?_⟩
    refine stf_go e13 f13 T.cl_Terms T.na_Terms_free (Nat.le_of_ble_eq_true (by rfl)) (fs' := t.flds.take 14) rfl fun H14 e14 f14 => ?_
    clear e13 f13
    refine ⟨_, rfl, ?_⟩
    refine ⟨_, rfl, ?_⟩
    refine stf_go e14 f14 T.cl_Terms T.na_Terms_opening_fee (Nat.le_of_ble_eq_true (by rfl)) (fs' := t.flds.take 15) rfl fun H15 e15 f15 => ?_
    clear e14 f14
    refine ⟨_, rfl, ?_⟩
    refine ⟨_, rfl, ?_⟩
    refine stf_go e15 f15 T.cl_Terms T.na_Terms_opening_part (Nat.le_of_ble_eq_true (by rfl)) (fs' := t.flds.take 16) rfl fun H16 e16 f16 => ?_
    clear e15 f15
    refine ⟨_, rfl, ?_⟩
    refine ⟨_, rfl, ?_⟩
    refine stf_go e16 f16 T.cl_Terms T.na_Terms_period_fee (Nat.le_of_ble_eq_true (by rfl)) (fs' := t.flds.take 17) rfl fun H17 e17 f17 => ?_
    clear e16 f16
    refine ⟨_, rfl, ?_⟩
    refine ⟨_, rfl, ?_⟩
    refine stf_go e17 f17 T.cl_Terms T.na_Terms_late_fee (Nat.le_of_ble_eq_true (by rfl)) (fs' := t.flds.take 18) rfl fun H18 e18 f18 => ?_
    clear e17 f17
    refine ⟨_, rfl, ?_⟩
    refine ⟨_, rfl, ?_⟩
    refine stf_go e18 f18 T.cl_Terms T.na_Terms_grace (Nat.le_of_ble_eq_true (by rfl)) (fs' := t.flds.take 19) rfl fun H19 e19 f19 => ?_
    clear e18 f18
    refine ⟨_, rfl, ?_⟩
    refine ⟨_, rfl, ?_⟩
    refine stf_go e19 f19 T.cl_Terms T.na_Terms_early_part (Nat.le_of_ble_eq_true (by rfl)) (fs' := t.flds.take 20) rfl fun H20 e20 f20 => ?_
    clear e19 f19
    refine ⟨_, rfl, ?_⟩
    refine ⟨_, rfl, ?_⟩
    refine stf_go e20 f20 T.cl_Terms T.na_Terms_early_months (Nat.le_of_ble_eq_true (by rfl)) (fs' := t.flds.take 21) rfl fun H21 e21 f21 => ?_
    clear e20 f20
    refine ⟨_, rfl, ?_⟩
    refine ⟨_, rfl, ?_⟩
    refine stf_go e21 f21 T.cl_Terms T.na_Terms_order (Nat.le_of_ble_eq_true (by rfl)) (fs' := t.flds.take 22) rfl fun H22 e22 f22 => ?_
    clear e21 f21
    refine ⟨_, rfl, ?_⟩
    refine ⟨_, rfl, ?_⟩
    refine stf_go e22 f22 T.cl_Terms T.na_Terms_penalty (Nat.le_of_ble_eq_true (by rfl)) (fs' := t.flds.take 23) rfl fun H23 e23 f23 => ?_
    clear e22 f22
    
    have e24 : H23 c = some (.ins T.c_Terms dx t.flds) := e23
    have keep : ∀ b o, b ≠ c → H b = some o → H23 b = some o := fun b o hb e => (f23 b hb).trans e
    have oc : t.ord ≠ c ∨ True := .inr trivial
    have ho2 : SqT K H23 t.ord (os.map V.str) := tup_but keep hc ho
    refine ⟨_, rfl, ?_⟩
    exact check_terms_go T e24 ho2 l1 l2 l3 l4 l5 l6 l7 l8 l9 (e _ keep) fun hg H' s => q H' (fun b o hb e => s b o (keep b o hb e)) ⟨⟨dx, s _ _ e24⟩, same_tup s ho2, hg⟩
theorem Terms___init___go (T : Txt w K mg) {H : Hp} {Q : VK} {E : XK} {c : Addr} {dx : Addr} {t : TM} {os : List Str} (hc : H c = some (.ins T.c_Terms dx [])) (ho : SqT K H t.ord (os.map V.str)) (l1 : t.name.length ≤ 1000000) (l2 : t.cal.length ≤ 1000000) (l3 : t.rule.length ≤ 1000000) (l4 : t.index.length ≤ 1000000) (l5 : t.conv.length ≤ 1000000) (l6 : t.mode.length ≤ 1000000) (l7 : t.scheme.length ≤ 1000000) (l8 : os.length ≤ 60) (l9 : os.all okS = true) (e : ∀ H', (∀ b o, b ≠ c → H b = some o → H' b = some o) → TermE T E H' (termErr t os)) (q : ∀ H', (∀ b o, b ≠ c → H b = some o → H' b = some o) → TermsAt K T.c_Terms H' c t os → Q .non H') : sp_Terms___init__ T (.ref c :: t.vals) H Q E := by
  unfold sp_Terms___init__
  exact ⟨c, dx, t, os, rfl, hc, ho, l1, l2, l3, l4, l5, l6, l7, l8, l9, e, q⟩
/-- new terms -/
theorem new_terms (T : Txt w K mg) {H : Hp} {R : Addr → Hp → Prop} {E : XK} {t : TM} {os : List Str} {zs : List V} {gV : List V → List V → List V} (hv : ∀ x : Addr, gV [.ref x] zs = .ref x :: t.vals) (ho : SqT K H t.ord (os.map V.str)) (l1 : t.name.length ≤ 1000000) (l2 : t.cal.length ≤ 1000000) (l3 : t.rule.length ≤ 1000000) (l4 : t.index.length ≤ 1000000) (l5 : t.conv.length ≤ 1000000) (l6 : t.mode.length ≤ 1000000) (l7 : t.scheme.length ≤ 1000000) (l8 : os.length ≤ 60) (l9 : os.all okS = true)
    (e : ∀ H', Same H H' → TermE T E H' (termErr t os)) (q : ∀ (c : Addr) (H' : Hp), Same H H' → H c = none → TermsAt K T.c_Terms H' c t os → R c H') :
    ∀ y dy, H y = none → H dy = none → dy ≠ y → sp_Terms___init__ T (gV [.ref y] zs) (upd (upd H dy (.own y)) y (.ins T.c_Terms dy [])) (fun v H2 => v = .non ∧ R y H2) E := by
  intro y dy ny ndy ne
  rw [hv y]
  have s0 : Same H (upd (upd H dy (.own y)) y (.ins T.c_Terms dy [])) := fun b o e => by
    rw [upd_ne (ne_of_none e ny), upd_ne (ne_of_none e ndy)]
    exact e
  exact Terms___init___go T upd_same (same_tup s0 ho) l1 l2 l3 l4 l5 l6 l7 l8 l9 (fun H' s => e H' fun b o e => s b o (ne_of_none e ny) (s0 b o e)) fun H' s M => ⟨rfl, q y H' (fun b o e => s b o (ne_of_none e ny) (s0 b o e)) ny M⟩
theorem new_terms_ok (T : Txt w K mg) {H : Hp} {R : Addr → Hp → Prop} {E : XK} {t : TM} {zs : List V} {gV : List V → List V → List V} (hv : ∀ x : Addr, gV [.ref x] zs = .ref x :: t.vals) (ho : SqT K H t.ord (usualO.map V.str)) (hg : termErr t usualO = none) (l2 : t.cal.length ≤ 1000000) (l3 : t.rule.length ≤ 1000000) (l5 : t.conv.length ≤ 1000000) (l6 : t.mode.length ≤ 1000000) (l7 : t.scheme.length ≤ 1000000)
    (q : ∀ (c : Addr) (H' : Hp), Same H H' → H c = none → TermsAt K T.c_Terms H' c t usualO → R c H') :
    ∀ y dy, H y = none → H dy = none → dy ≠ y → sp_Terms___init__ T (gV [.ref y] zs) (upd (upd H dy (.own y)) y (.ins T.c_Terms dy [])) (fun v H2 => v = .non ∧ R y H2) E :=
  new_terms T hv ho (term_name hg) l2 l3 (term_index hg) l5 l6 l7 (by decide) (by decide +kernel) (fun H' _ => by rw [hg]; exact fun _ _ _ _ => trivial) q

/-! ### Terms_parts -/
@[irreducible] def sp_Terms_parts (T : Txt w K mg) : Sp := fun vs H Q E => ∃ (c : Addr) (t : TM) (os : List Str), vs = [.ref c] ∧ TermsAt K T.c_Terms H c t os ∧ (∀ p H', Same H H' → H' p = some (.tup t.vals) → Q (.ref p) H')
theorem ok_Terms_parts (T : Txt w K mg) : FnOk P w K mg base (L2.CX P w) 1 T.a_Terms_parts T.fd_Terms_parts ["self"] (sp_Terms_parts T) := by
  refine T.F_Terms_parts.ok sc_Terms_parts (fun vs H Q E h => ?_) (fun cdv A outer s H vs Q E hr h => ?_)
  · unfold sp_Terms_parts at h
    obtain ⟨c, t, os, rfl, _⟩ := h
    rfl
  · unfold sp_Terms_parts at h
    obtain ⟨c, t, os, rfl, St, q⟩ := h
    refine ⟨_, (pss_one (ps_ret (pe_tup (pa_cons (pe_fld (pv 0) rfl) (pa_cons (pe_fld (pv 0) rfl) (pa_cons (pe_fld (pv 0) rfl) (pa_cons (pe_fld (pv 0) rfl) (pa_cons (pe_fld (pv 0) rfl) (pa_cons (pe_fld (pv 0) rfl) (pa_cons (pe_fld (pv 0) rfl) (pa_cons (pe_fld (pv 0) rfl) (pa_cons (pe_fld (pv 0) rfl) (pa_cons (pe_fld (pv 0) rfl) (pa_cons (pe_fld (pv 0) rfl) (pa_cons (pe_fld (pv 0) rfl) (pa_cons (pe_fld (pv 0) rfl) (pa_cons (pe_fld (pv 0) rfl) (pa_cons (pe_fld (pv 0) rfl) (pa_cons (pe_fld (pv 0) rfl) (pa_cons (pe_fld (pv 0) rfl) (pa_cons (pe_fld (pv 0) rfl) (pa_cons (pe_fld (pv 0) rfl) (pa_cons (pe_fld (pv 0) rfl) (pa_cons (pe_fld (pv 0) rfl) (pa_cons (pe_fld (pv 0) rfl) (pa_cons (pe_fld (pv 0) rfl) pa_nil)))))))))))))))))))))))))), ?_⟩
    obtain ⟨dx, hi⟩ := St.ins
    walk_at "rd"
    rename_i p np
    exact q p _ (same_new (Same.refl H) np) upd_same
theorem Terms_parts_go (T : Txt w K mg) {H : Hp} {Q : VK} {E : XK} {c : Addr} {t : TM} {os : List Str} (St : TermsAt K T.c_Terms H c t os) (q : ∀ p H', Same H H' → H' p = some (.tup t.vals) → Q (.ref p) H') : sp_Terms_parts T [.ref c] H Q E := by
  unfold sp_Terms_parts
  exact ⟨c, t, os, rfl, St, q⟩

/-! ### told_fields -/
@[irreducible] def sp_told_fields (T : Txt w K mg) : Sp := fun vs H Q E => ∃ (c : Addr) (t : TM) (os : List Str), vs = [.ref c] ∧ TermsAt K T.c_Terms H c t os ∧ os.all okS = true ∧ (∀ p H' kvs, Same H H' → H' p = some (.dK kvs) → (∀ z, (valV kvs (Sum.inr z)).isSome = toldB t os z) → Q (.ref p) H')
theorem ok_told_fields (T : Txt w K mg) : FnOk P w K mg base (L2.CX P w) 9 T.a_told_fields T.fd_told_fields ["terms"] (sp_told_fields T) := by
  refine T.F_told_fields.ok sc_told_fields (fun vs H Q E h => ?_) (fun cdv A outer s H vs Q E hr h => ?_)
  · unfold sp_told_fields at h
    obtain ⟨c, t, os, rfl, _⟩ := h
    rfl
  · unfold sp_told_fields at h
    obtain ⟨c, t, os, rfl, St, fo, q⟩ := h
    refine ⟨_, (pss_cons (ps_set (i := 1) sc_told_fields.nd rfl (Or.inl rfl) (pe_makeKX T.mk_Terms (ok_Terms___init__ T) (hr.mono (by decide)) rfl T.m_Terms (kb_Terms_0 T).choose_spec (fun σ => passAt (takes_of rfl rfl rfl rfl) σ) (pk_cons (pe_fld (pv 0) rfl) (pk_cons (pe_fld (pv 0) rfl) pk_nil))))
    (pss_cons (ps_set (i := 2) sc_told_fields.nd rfl (Or.inl rfl) (pe_disp (pps_cons pe_str pe_bl (pps_cons pe_str pe_bl pps_nil)) (by rfl) (by rfl) (fun z => by cases z) (by decide)))
    (pss_cons (ps_for (passes_of rfl) rfl (pi_zip3T rfl T.z_zip (pa_cons (pe_glob (v := .ref T.q_FIELD_NAMES) rfl T.m_FIELD_NAMES rfl) (pa_cons (pe_methX0 (ok_Terms_parts T) (hr.mono (by decide)) T.cl_Terms T.me_Terms_parts T.b_Terms_parts (fun σ => passAt (takes_of rfl rfl rfl rfl) σ) (pv 0)) (pa_cons (pe_methX0 (ok_Terms_parts T) (hr.mono (by decide)) T.cl_Terms T.me_Terms_parts T.b_Terms_parts (fun σ => passAt (takes_of rfl rfl rfl rfl) σ) (pv 1)) pa_nil)))) (pg_tup rfl (pgs_cons (pg_name (i := 3) sc_told_fields.nd rfl (Or.inl rfl)) (pgs_cons (pg_name (i := 4) sc_told_fields.nd rfl (Or.inl rfl)) (pgs_cons (pg_name (i := 5) sc_told_fields.nd rfl (Or.inl rfl)) pgs_nil))))
      (pss_one (ps_cut (ps_if (pt_cmpR (op_neD hr.units) (pv 4) (pv 5) (nomark _)) (pss_one (ps_dput (hu_of hr) (pv 2) (pv 3) pe_bl rfl)) pss_nil))))
    (pss_one (ps_ret (pv 2)))))), ?_⟩
    have g := (good_of St.good).1
    obtain ⟨dx, hi⟩ := St.ins
    walk_at "rd"
    refine new_terms_ok T (t := plainT t.name t.count T.qk_Terms___init__ 0) (fun _ => rfl) (T.tk_Terms___init__ _) (plain_ok g.name g.count (by decide)) (Nat.le_of_ble_eq_true (by rfl)) (Nat.le_of_ble_eq_true (by rfl)) (Nat.le_of_ble_eq_true (by rfl)) (Nat.le_of_ble_eq_true (by rfl)) (Nat.le_of_ble_eq_true (by rfl)) fun c2 H1 s1 n1 St2 => ?_
    have gp : GoodT (plainT t.name t.count T.qk_Terms___init__ 0) := plain_good g.name g.count (by decide)
    walk_at "rd"
    refine fun p np => ?_
    walk_at "rd"
    dsimp only [tPairs, tC]
    walk_at "rd"
    refine ⟨upd_same, [(Sum.inr "count", .bl true), (Sum.inr "rate", .bl true)], rfl, Nat.le_of_ble_eq_true rfl, ?_⟩
    have hp0 : H p = none := sameZ s1 np
    obtain ⟨H2, hH2⟩ : ∃ H2, H2 = upd (upd H1 p (.dK [])) p (.dK (mergeK [] [((Sum.inr "count" : Key), V.bl true), (Sum.inr "rate", .bl true)])) := ⟨_, rfl⟩
    rw [← hH2]
    have s2 : Same H1 H2 := by rw [hH2]; exact same_set (same_new (Same.refl _) np) np
    have e2 : H2 p = some (.dK [((Sum.inr "count" : Key), V.bl true), (Sum.inr "rate", .bl true)]) := by rw [hH2, upd_same]; rfl
    have St3 := St.same (s1.trans s2)
    have St4 := St2.same s2
    obtain ⟨dx3, hi3⟩ := St3.ins
    obtain ⟨dx4, hi4⟩ := St4.ins
    walk_at "rd"
    refine Terms_parts_go T St3 fun p3 H3 s3 e3 => ?_
    have hi5 := s3 _ _ hi4
    walk_at "rd"
    refine Terms_parts_go T (St4.same s3) fun p4 H4 s4 e4 => ?_
    have e34 := s4 _ _ e3
    have sH : Same H H4 := (s1.trans s2).trans (s3.trans s4)
    have hp4 := s4 _ _ (s3 _ _ e2)
    walk_at "rd"
    have F : SqT K H4 T.q_FIELD_NAMES (keysL.map V.str) := T.t_FIELD_NAMES H4
    refine ⟨_, _, _, _, _, _, rfl, F, t_of e34, t_of e4, for_zip3T (xs := keysL.map V.str) (ys := t.vals) (zs := (plainT t.name t.count T.qk_Terms___init__ 0).vals) rfl rfl (fun i σ H' => Wall (∃ kvs u3 u4 u5, σ = [some (.ref c), some (.ref c2), some (.ref p), u3, u4, u5] ∧ Same H H' ∧ (∀ b o, b ≠ p → H4 b = some o → H' b = some o) ∧ H' p = some (.dK kvs) ∧ kvs.length ≤ 2 + i ∧ ∀ z, (valV kvs (Sum.inr z)).isSome = (z == "count" || z == "rate" || (List.range i).any fun j => decide (keysL[j]? = some z) && !eqAt t os (plainT t.name t.count 0 0) usualO j))) (wall ⟨_, _, _, _, rfl, sH, fun _ _ _ e => e, hp4, Nat.le_refl _, fun z => ?_⟩) ?_ ?_ ?_⟩
    · show (valV [((Sum.inr "count" : Key), V.bl true), (Sum.inr "rate", .bl true)] (Sum.inr z)).isSome = _
      rw [show (List.range 0) = [] from rfl, List.any_nil, Bool.or_false]
      by_cases c1 : z = "count"
      · subst c1
        rw [valV_pos rfl]
        rfl
      · rw [valV_neg (fun k => c1 (Sum.inr.inj k).symm)]
        by_cases c2 : z = "rate"
        · subst c2
          rw [valV_pos rfl]
          rfl
        · rw [valV_neg (fun k => c2 (Sum.inr.inj k).symm), beq_eq_false_iff_ne.mpr c1, beq_eq_false_iff_ne.mpr c2]
          rfl
    · rintro i σ H' ⟨w⟩
      obtain ⟨kvs, u3, u4, u5, rfl, s, fr, ek, lk, hk⟩ := w trivial
      have npf : ∀ {x : Addr} {o : List V}, H4 x = some (.tup o) → x ≠ p := fun {x o} e z => by rw [z, hp4] at e; cases e
      exact ⟨T.t_FIELD_NAMES H', t_of (fr _ _ (npf e34) e34), t_of (fr _ _ (npf e4) e4)⟩
    · rintro i x y z T0 σ H' hx hy hz ⟨w⟩ nT
      obtain ⟨kvs, u3, u4, u5, rfl, s, fr, ek, lk, hk⟩ := w trivial
      clear w
      rw [List.getElem?_map] at hx
      obtain ⟨kz, hkz, rfl⟩ := Option.map_eq_some_iff.mp hx
      have hi23 : i < 23 := (List.getElem?_eq_some_iff.mp hkz).1
      have nTp : T0 ≠ p := fun k => by rw [k, ek] at nT; cases nT
      have ord1 : SqT K (upd H' T0 (.tup [.str kz, y, z])) t.ord (os.map V.str) := same_tup (same_new s nT) St.ordAt
      have step : ∀ b : Bool, b = (!eqAt t os (plainT t.name t.count 0 0) usualO i) → ∀ zz : Str, (zz == "count" || zz == "rate" || (List.range (i + 1)).any fun j => decide (keysL[j]? = some zz) && !eqAt t os (plainT t.name t.count 0 0) usualO j) = ((zz == "count" || zz == "rate" || (List.range i).any fun j => decide (keysL[j]? = some zz) && !eqAt t os (plainT t.name t.count 0 0) usualO j) || (decide (keysL[i]? = some zz) && b)) := fun b hb zz => by
        rw [List.range_succ, List.any_append, hb]
        simp only [List.any_cons, List.any_nil, Bool.or_false, Bool.or_assoc]
      walk_at "rd"
      refine ⟨fun σ' H'' => Wall (∃ kvs' u3 u4 u5, σ' = [some (.ref c), some (.ref c2), some (.ref p), u3, u4, u5] ∧ Same H H'' ∧ (∀ b o, b ≠ p → H4 b = some o → H'' b = some o) ∧ H'' p = some (.dK kvs') ∧ kvs'.length ≤ 2 + (i + 1) ∧ ∀ z, (valV kvs' (Sum.inr z)).isSome = (z == "count" || z == "rate" || (List.range (i + 1)).any fun j => decide (keysL[j]? = some z) && !eqAt t os (plainT t.name t.count 0 0) usualO j)), ?_, fun _ _ h => h⟩
      have frT : ∀ b o, b ≠ p → H4 b = some o → (upd H' T0 (.tup [.str kz, y, z])) b = some o := fun b o hb e => hp_upd nT (fr b o hb e)
      walk_at "rd"
      refine neD_pl (t := t) (t' := plainT t.name t.count T.qk_Terms___init__ 0) (os := os) (os' := usualO) g gp ord1 (T.tk_Terms___init__ _) fo (by decide +kernel) hkz hy hz ?_
      rw [plain_at]
      have ek2 : (upd H' T0 (.tup [.str kz, y, z])) p = some (.dK kvs) := hp_upd nT ek
      by_cases cb : eqAt t os (plainT t.name t.count 0 0) usualO i = true
      · rw [cb]
        walk_at "rd"
        refine wall ⟨kvs, _, _, _, rfl, same_new s nT, frT, ek2, by omega, fun zz => ?_⟩
        rw [hk zz, step false (by rw [cb]; rfl) zz, Bool.and_false, Bool.or_false]
      · rw [Bool.eq_false_iff.mpr cb]
        walk_at "rd"
        refine dputS ek2 (by rw [sizeLine_eq]; omega) ?_
        refine wall ⟨putK kvs (Sum.inr kz) (.bl true), _, _, _, rfl, same_set (same_new s nT) hp0, fun b o hb e => by rw [upd_ne hb]; exact frT b o hb e, upd_same, ?_, fun zz => ?_⟩
        · have : (putK kvs (Sum.inr kz : Key) (.bl true)).length ≤ kvs.length + 1 := by
            unfold putK
            split
            · rw [List.length_map]; omega
            · rw [List.length_append]; exact Nat.le_refl _
          omega
        · rw [valV_put, step true (by rw [Bool.eq_false_iff.mpr cb]; rfl) zz, Bool.and_true, ← hk zz]
          by_cases e : zz = kz
          · subst e
            rw [if_pos rfl, decide_eq_true hkz, Bool.or_true]
            rfl
          · rw [if_neg (fun k => e (Sum.inr.inj k)), decide_eq_false (fun k => e (Option.some.inj (hkz.symm.trans k)).symm), Bool.or_false]
    · rintro σ H' ⟨w⟩
      obtain ⟨kvs, u3, u4, u5, rfl, s, fr, ek, lk, hk⟩ := w trivial
      walk_at "rd"
      exact q p _ kvs s ek hk
theorem told_fields_go (T : Txt w K mg) {H : Hp} {Q : VK} {E : XK} {c : Addr} {t : TM} {os : List Str} (h : TermsAt K T.c_Terms H c t os) (fo : os.all okS = true) (q : ∀ p H' kvs, Same H H' → H' p = some (.dK kvs) → (∀ z, (valV kvs (Sum.inr z)).isSome = toldB t os z) → Q (.ref p) H') : sp_told_fields T [.ref c] H Q E := by
  unfold sp_told_fields
  exact ⟨c, t, os, rfl, h, fo, q⟩

/-! ### payments_line -/
@[irreducible] def sp_payments_line (T : Txt w K mg) : Sp := fun vs H Q E => ∃ (c : Addr) (t : TM) (os : List Str), vs = [.ref c] ∧ TermsAt K T.c_Terms H c t os ∧ (∀ H', Same H H' → Q (.str (payL t)) H')
theorem ok_payments_line (T : Txt w K mg) : FnOk P w K mg base (L2.CX P w) 1 T.a_payments_line T.fd_payments_line ["terms"] (sp_payments_line T) := by
  refine T.F_payments_line.ok sc_payments_line (fun vs H Q E h => ?_) (fun cdv A outer s H vs Q E hr h => ?_)
  · unfold sp_payments_line at h
    obtain ⟨c, t, os, rfl, _⟩ := h
    rfl
  · unfold sp_payments_line at h
    obtain ⟨c, t, os, rfl, St, q⟩ := h
    refine ⟨_, (pss_cons (ps_set (i := 1) sc_payments_line.nd rfl (Or.inl rfl) (pe_joined (.cons pe_str (.cons (pe_fmt (pe_fld (pv 0) rfl)) (.cons pe_str (.cons (pe_fmt (pe_fld (pv 0) rfl)) .nil))))))
    (pss_cons (ps_cut (ps_if (pt_cmpR op_gt (pe_fld (pv 0) rfl) pe_int (nomark _)) (pss_one (ps_set (i := 1) sc_payments_line.nd rfl (Or.inl rfl) (pe_joined (.cons (pe_fmt (pv 1)) (.cons pe_str (.cons (pe_fmt (pe_fld (pv 0) rfl)) .nil)))))) pss_nil))
    (pss_one (ps_ret (pv 1))))), ?_⟩
    have g := (good_of St.good).1
    obtain ⟨dx, hi⟩ := St.ins
    have g1 := g.count
    have g2 := every_bd g.every
    have g3 := g.due
    have g4 := g.free
    have g5 := g.ofee
    have g6 := g.opart
    have g7 := g.rate
    have g8 := g.lowest
    have g9 := g.highest
    have sh := g.short
    have l1 : LL 1000000 t.scheme := ⟨sh.scheme⟩
    have l2 : LL 1000000 t.cal := ⟨sh.cal⟩
    have l3 : LL 1000000 t.rule := ⟨sh.rule⟩
    have l4 : LL 1000000 t.index := ⟨term_index St.good⟩
    unfold payL at q
    walk_at "rd"
    refine ⟨fun σ' H' => Wall (H' = H ∧ σ' = [some (.ref c), some (.str (if 0 < t.free then "payments " ++ S t.count ++ " " ++ t.scheme ++ " after " ++ S t.free else "payments " ++ S t.count ++ " " ++ t.scheme))]), ?_, ?_⟩
    · walk_at "rd"
      refine iteD (fun k => ?_) (fun k => ?_)
      · rw [if_pos k]
        have le : LL 2000000 (Str.empty ++ "payments " ++ (toString t.count : Str) ++ " " ++ t.scheme) := LL.mono (by walk_at "ll") (by decide)
        walk_at "rd"
        exact wall ⟨rfl, by simp only [emp_app]; rfl⟩
      · rw [if_neg k]
        exact wall ⟨rfl, by simp only [emp_app]; rfl⟩
    rintro σ' H' ⟨w1⟩
    obtain ⟨rfl, rfl⟩ := w1 trivial
    walk_at "rd"
    exact q _ (Same.refl _)
theorem payments_line_go (T : Txt w K mg) {H : Hp} {Q : VK} {E : XK} {c : Addr} {t : TM} {os : List Str} (h : TermsAt K T.c_Terms H c t os) (q : ∀ H', Same H H' → Q (.str (payL t)) H') : sp_payments_line T [.ref c] H Q E := by
  unfold sp_payments_line
  exact ⟨c, t, os, rfl, h, q⟩

/-! ### due_line -/
@[irreducible] def sp_due_line (T : Txt w K mg) : Sp := fun vs H Q E => ∃ (c : Addr) (t : TM) (os : List Str), vs = [.ref c] ∧ TermsAt K T.c_Terms H c t os ∧ (∀ H', Same H H' → Q (.str (dueL t)) H')
theorem ok_due_line (T : Txt w K mg) : FnOk P w K mg base (L2.CX P w) 1 T.a_due_line T.fd_due_line ["terms"] (sp_due_line T) := by
  refine T.F_due_line.ok sc_due_line (fun vs H Q E h => ?_) (fun cdv A outer s H vs Q E hr h => ?_)
  · unfold sp_due_line at h
    obtain ⟨c, t, os, rfl, _⟩ := h
    rfl
  · unfold sp_due_line at h
    obtain ⟨c, t, os, rfl, St, q⟩ := h
    refine ⟨_, (pss_cons (ps_if (PW.pt (pw_and (pt_cmpR op_eq (pe_fld (pv 0) rfl) pe_str (nomark _)) (pw_and1 (pt_cmpR op_eq (pe_fld (pv 0) rfl) pe_str (nomark _))))) (pss_one (ps_ret (pe_joined (.cons pe_str (.cons (pe_fmt (pe_fld (pv 0) rfl)) .nil))))) pss_nil)
    (pss_one (ps_ret (pe_joined (.cons pe_str (.cons (pe_fmt (pe_fld (pv 0) rfl)) (.cons pe_str (.cons (pe_fmt (pe_fld (pv 0) rfl)) (.cons pe_str (.cons (pe_fmt (pe_fld (pv 0) rfl)) .nil)))))))))), ?_⟩
    have g := (good_of St.good).1
    obtain ⟨dx, hi⟩ := St.ins
    have g1 := g.count
    have g2 := every_bd g.every
    have g3 := g.due
    have g4 := g.free
    have g5 := g.ofee
    have g6 := g.opart
    have g7 := g.rate
    have g8 := g.lowest
    have g9 := g.highest
    have sh := g.short
    have l1 : LL 1000000 t.scheme := ⟨sh.scheme⟩
    have l2 : LL 1000000 t.cal := ⟨sh.cal⟩
    have l3 : LL 1000000 t.rule := ⟨sh.rule⟩
    have l4 : LL 1000000 t.index := ⟨term_index St.good⟩
    unfold dueL at q
    walk_at "rd"
    refine iteS (fun k => ?_) (fun k => ?_)
    · walk_at "rd"
      refine iteS (fun k2 => ?_) (fun k2 => ?_)
      · walk_at "rd"
        have q1 := q _ (Same.refl _)
        rw [if_pos ⟨k, k2⟩] at q1
        simp only [emp_app]
        exact q1
      · walk_at "rd"
        have q1 := q _ (Same.refl _)
        rw [if_neg (fun z => k2 z.2)] at q1
        simp only [emp_app]
        exact q1
    · walk_at "rd"
      have q1 := q _ (Same.refl _)
      rw [if_neg (fun z => k z.1)] at q1
      simp only [emp_app]
      exact q1
theorem due_line_go (T : Txt w K mg) {H : Hp} {Q : VK} {E : XK} {c : Addr} {t : TM} {os : List Str} (h : TermsAt K T.c_Terms H c t os) (q : ∀ H', Same H H' → Q (.str (dueL t)) H') : sp_due_line T [.ref c] H Q E := by
  unfold sp_due_line
  exact ⟨c, t, os, rfl, h, q⟩

/-! ### show_percent -/
@[irreducible] def sp_show_percent : Sp := fun vs H Q E => ∃ (n : Int), vs = [.int n] ∧ 0 ≤ n ∧ n ≤ 1000000 ∧ (∀ H', Same H H' → Q (.str (pct n)) H')
theorem ok_show_percent (T : Txt w K mg) : FnOk P w K mg base (L2.CX P w) 1 T.a_show_percent T.fd_show_percent ["rate"] sp_show_percent := by
  refine T.F_show_percent.ok sc_show_percent (fun vs H Q E h => ?_) (fun cdv A outer s H vs Q E hr h => ?_)
  · unfold sp_show_percent at h
    obtain ⟨n, rfl, _⟩ := h
    rfl
  · unfold sp_show_percent at h
    obtain ⟨n, rfl, n0, n1, q⟩ := h
    refine ⟨_, (pss_cons (ps_asg (pe_callB call_dvm rfl T.z_divmod bt_divmod (pa_cons (pv 0) (pa_cons pe_int pa_nil))) (pg_tup rfl (pgs_cons (pg_name (i := 1) sc_show_percent.nd rfl (Or.inl rfl)) (pgs_cons (pg_name (i := 2) sc_show_percent.nd rfl (Or.inl rfl)) pgs_nil))))
    (pss_cons (ps_set (i := 3) sc_show_percent.nd rfl (Or.inl rfl) (pe_bm PySem.F.plainAttrs_str PySem.F.slot_str_rstrip PySem.F.type_str_rstrip mt_rsC (pe_joined1 (pe_fmtZ (spec := "04d") T.nd (by decide +kernel) (Nat.le_of_ble_eq_true (by rfl)) (pv 2) (pe_joined1 pe_str))) (pa_cons pe_str pa_nil)))
    (pss_cons (ps_if (pt_cmpR op_eq (pv 3) pe_str (nomark _)) (pss_one (ps_ret (pe_joined (.cons (pe_fmt (pv 1)) (.cons pe_str .nil))))) pss_nil)
    (pss_one (ps_ret (pe_joined (.cons (pe_fmt (pv 1)) (.cons pe_str (.cons (pe_fmt (pv 3)) (.cons pe_str .nil)))))))))), ?_⟩
    walk_at "rd"
    refine dvm_go (n := 100) ⟨by omega⟩ (by decide) (by decide) fun p np => ?_
    walk_at "rd"
    refine fmt_go ?_
    have r1 : 0 ≤ n % 10000 ∧ n % 10000 < 10000 := by omega
    have hl : (intSpecTextOf "04d" (n % 10000)).length ≤ sizeLine := by rw [(spec4 r1).2, sizeLine_eq]; omega
    have e : Txt.rstripChars (intSpecTextOf "04d" (n % 10000)) "0" = pctD n := by unfold pctD; rfl
    have q1 := q _ (same_new (o := .tup [.int (n / 10000), .int (n % 10000)]) (Same.refl _) np)
    walk_at "rd"
    refine ⟨by omega, by omega, ty_s, ?_⟩
    dsimp only [tCons, tC, tNil]
    refine rsC_go hl ?_
    rw [e]
    have l1 : LL 4 (pctD n) := ⟨pctD_len⟩
    walk_at "rd"
    refine iteS (fun k => ?_) (fun k => ?_)
    · walk_at "rd"
      rw [pct_e k] at q1
      simp only [emp_app]
      exact q1
    · walk_at "rd"
      rw [pct_n k] at q1
      simp only [emp_app]
      exact q1
theorem show_percent_go {H : Hp} {Q : VK} {E : XK} {n : Int} (h0 : 0 ≤ n) (h1 : n ≤ 1000000) (q : ∀ H', Same H H' → Q (.str (pct n)) H') : sp_show_percent [.int n] H Q E := by
  unfold sp_show_percent
  exact ⟨n, rfl, h0, h1, q⟩

/-! ### rate_line -/
@[irreducible] def sp_rate_line (T : Txt w K mg) : Sp := fun vs H Q E => ∃ (c : Addr) (t : TM) (os : List Str), vs = [.ref c] ∧ TermsAt K T.c_Terms H c t os ∧ (∀ H', Same H H' → Q (.str (rateL t)) H')
theorem ok_rate_line (T : Txt w K mg) : FnOk P w K mg base (L2.CX P w) 2 T.a_rate_line T.fd_rate_line ["terms"] (sp_rate_line T) := by
  refine T.F_rate_line.ok sc_rate_line (fun vs H Q E h => ?_) (fun cdv A outer s H vs Q E hr h => ?_)
  · unfold sp_rate_line at h
    obtain ⟨c, t, os, rfl, _⟩ := h
    rfl
  · unfold sp_rate_line at h
    obtain ⟨c, t, os, rfl, St, q⟩ := h
    refine ⟨_, (pss_cons (ps_if (pt_cmpR op_eq (pe_fld (pv 0) rfl) pe_str (nomark _)) (pss_one (ps_ret (pe_joined (.cons pe_str (.cons (pe_fmt (pe_callS (ok_show_percent T) (hr.mono (by decide)) rfl T.m_show_percent T.F_show_percent.kp T.b_show_percent (fun σ => passAt (takes_of rfl rfl rfl rfl) σ) (pa_cons (pe_fld (pv 0) rfl) pa_nil))) .nil))))) pss_nil)
    (pss_cons (ps_set (i := 1) sc_rate_line.nd rfl (Or.inl rfl) (pe_joined (.cons pe_str (.cons (pe_fmt (pe_fld (pv 0) rfl)) (.cons pe_str (.cons (pe_fmt (pe_callS (ok_show_percent T) (hr.mono (by decide)) rfl T.m_show_percent T.F_show_percent.kp T.b_show_percent (fun σ => passAt (takes_of rfl rfl rfl rfl) σ) (pa_cons (pe_fld (pv 0) rfl) pa_nil))) .nil))))))
    (pss_cons (ps_cut (ps_if (PW.pt (pw_or (pt_cmpR op_ne (pe_fld (pv 0) rfl) pe_int (nomark _)) (pw_or1 (pt_cmpR op_ne (pe_fld (pv 0) rfl) pe_int (nomark _))))) (pss_one (ps_set (i := 1) sc_rate_line.nd rfl (Or.inl rfl) (pe_joined (.cons (pe_fmt (pv 1)) (.cons pe_str (.cons (pe_fmt (pe_callS (ok_show_percent T) (hr.mono (by decide)) rfl T.m_show_percent T.F_show_percent.kp T.b_show_percent (fun σ => passAt (takes_of rfl rfl rfl rfl) σ) (pa_cons (pe_fld (pv 0) rfl) pa_nil))) (.cons pe_str (.cons (pe_fmt (pe_callS (ok_show_percent T) (hr.mono (by decide)) rfl T.m_show_percent T.F_show_percent.kp T.b_show_percent (fun σ => passAt (takes_of rfl rfl rfl rfl) σ) (pa_cons (pe_fld (pv 0) rfl) pa_nil))) .nil)))))))) pss_nil))
    (pss_one (ps_ret (pv 1)))))), ?_⟩
    have g := (good_of St.good).1
    obtain ⟨dx, hi⟩ := St.ins
    have g1 := g.count
    have g2 := every_bd g.every
    have g3 := g.due
    have g4 := g.free
    have g5 := g.ofee
    have g6 := g.opart
    have g7 := g.rate
    have g8 := g.lowest
    have g9 := g.highest
    have sh := g.short
    have l1 : LL 1000000 t.scheme := ⟨sh.scheme⟩
    have l2 : LL 1000000 t.cal := ⟨sh.cal⟩
    have l3 : LL 1000000 t.rule := ⟨sh.rule⟩
    have l4 : LL 1000000 t.index := ⟨term_index St.good⟩
    unfold rateL at q
    walk_at "rd"
    refine iteS (fun k => ?_) (fun k => ?_)
    · rw [if_pos k] at q
      walk_at "rd"
      refine show_percent_go g7.1 g7.2 fun H1 s1 => ?_
      walk_at "rd"
      have q1 := q _ s1
      simp only [emp_app]
      exact q1
    rw [if_neg k] at q
    walk_at "rd"
    refine show_percent_go g7.1 g7.2 fun H1 s1 => ?_
    have hi1 := s1 _ _ hi
    walk_at "rd"
    refine ⟨fun σ' H' => Wall (Same H H' ∧ σ' = [some (.ref c), some (.str (if t.lowest ≠ 0 ∨ t.highest ≠ 1000000 then "rate " ++ t.index ++ " plus " ++ pct t.rate ++ " from " ++ pct t.lowest ++ " to " ++ pct t.highest else "rate " ++ t.index ++ " plus " ++ pct t.rate))]), ?_, ?_⟩
    · have le : LL 2000000 (Str.empty ++ "rate " ++ t.index ++ " plus " ++ pct t.rate) := LL.mono (by walk_at "ll") (by decide)
      have fin : t.lowest ≠ 0 ∨ t.highest ≠ 1000000 → ∀ H', Same H H' → Wall (Same H H' ∧ [some (V.ref c), some (.str (Str.empty ++ (Str.empty ++ "rate " ++ t.index ++ " plus " ++ pct t.rate) ++ " from " ++ pct t.lowest ++ " to " ++ pct t.highest))] = [some (.ref c), some (.str (if t.lowest ≠ 0 ∨ t.highest ≠ 1000000 then "rate " ++ t.index ++ " plus " ++ pct t.rate ++ " from " ++ pct t.lowest ++ " to " ++ pct t.highest else "rate " ++ t.index ++ " plus " ++ pct t.rate))]) := fun d H' s' => by
        rw [if_pos d]
        exact wall ⟨s', by simp only [emp_app]⟩
      walk_at "rd"
      refine iteIN (fun d => ?_) (fun d => ?_)
      · walk_at "rd"
        refine show_percent_go g8.1 g8.2 fun H2 s2 => ?_
        have hi2 := s2 _ _ hi1
        walk_at "rd"
        refine show_percent_go g9.1 g9.2 fun H3 s3 => ?_
        walk_at "rd"
        exact fin (.inl d) _ (s1.trans (s2.trans s3))
      walk_at "rd"
      refine iteIN (fun e => ?_) (fun e => ?_)
      · walk_at "rd"
        refine show_percent_go g8.1 g8.2 fun H2 s2 => ?_
        have hi2 := s2 _ _ hi1
        walk_at "rd"
        refine show_percent_go g9.1 g9.2 fun H3 s3 => ?_
        walk_at "rd"
        exact fin (.inr e) _ (s1.trans (s2.trans s3))
      rw [if_neg (fun z => z.elim (fun q => q d) (fun q => q e))]
      exact wall ⟨s1, by simp only [emp_app]; rfl⟩
    rintro σ' H' ⟨w1⟩
    obtain ⟨s', rfl⟩ := w1 trivial
    walk_at "rd"
    exact q _ s' 
theorem rate_line_go (T : Txt w K mg) {H : Hp} {Q : VK} {E : XK} {c : Addr} {t : TM} {os : List Str} (h : TermsAt K T.c_Terms H c t os) (q : ∀ H', Same H H' → Q (.str (rateL t)) H') : sp_rate_line T [.ref c] H Q E := by
  unfold sp_rate_line
  exact ⟨c, t, os, rfl, h, q⟩

/-! ### show_integer -/
/-- no call at all -/
theorem okF_show_integer (T : Txt w K mg) : FnOk P w K mg base (L2.CX P w) 1 T.a_show_integer T.fd_show_integer ["value"] (fun _ _ _ _ => False) :=
  T.F_show_integer.ok sc_show_integer (fun vs H Q E h => h.elim) (fun cdv A outer s H vs Q E hr h => h.elim)
@[irreducible] def spN_show_integer : Sp := fun vs H Q E => ∃ (n : Int), vs = [.int n] ∧ 0 ≤ n ∧ Sz 1900 n ∧ (∀ H', Same H H' → Q (.str (toString n)) H')
theorem okN_show_integer (T : Txt w K mg) : FnOk P w K mg base (L2.CX P w) 2 T.a_show_integer T.fd_show_integer ["value"] spN_show_integer := by
  have ok_show_integer : ∀ T : Txt w K mg, FnOk P w K mg base (L2.CX P w) 1 T.a_show_integer T.fd_show_integer ["value"] (fun _ _ _ _ => False) := okF_show_integer
  refine T.F_show_integer.ok sc_show_integer (fun vs H Q E h => ?_) (fun cdv A outer s H vs Q E hr h => ?_)
  · unfold spN_show_integer at h
    obtain ⟨n, rfl, _⟩ := h
    rfl
  · unfold spN_show_integer at h
    obtain ⟨n, rfl, n0, z, q⟩ := h
    refine ⟨_, (pss_cons (ps_if (pt_cmpR op_lt (pv 0) pe_int (nomark _)) (pss_one (ps_ret (pe_joined (.cons pe_str (.cons (pe_fmt (pe_callS (ok_show_integer T) (hr.mono (by decide)) rfl T.m_show_integer T.F_show_integer.kp T.b_show_integer (fun σ => passAt (takes_of rfl rfl rfl rfl) σ) (pa_cons (pe_un un_neg (pv 0)) pa_nil))) .nil))))) pss_nil)
    (pss_cons (ps_if (pt_cmpR op_lt (pv 0) (pe_glob (v := .int 1000000000000000000) rfl T.m_LARGE.choose_spec ⟨_, rfl⟩) (nomark _)) (pss_one (ps_ret (pe_callTy call_strI rfl T.z_str bt_str (pa_cons (pv 0) pa_nil)))) pss_nil)
    (pss_cons (ps_set (i := 1) sc_show_integer.nd rfl (Or.inl rfl) (pe_lst pa_nil))
    (pss_cons (ps_while (passes_of rfl) (pt_cmpR op_gt (pv 0) pe_int (nomark _))
      (pss_cons (ps_asg (pe_callB call_dvm rfl T.z_divmod bt_divmod (pa_cons (pv 0) (pa_cons (pe_glob (v := .int 1000000000000000000) rfl T.m_LARGE.choose_spec ⟨_, rfl⟩) pa_nil))) (pg_tup rfl (pgs_cons (pg_name (i := 0) sc_show_integer.nd rfl (Or.inl rfl)) (pgs_cons (pg_name (i := 2) sc_show_integer.nd rfl (Or.inl rfl)) pgs_nil))))
      (pss_one (ps_expr (pe_bm PySem.F.plainAttrs_list PySem.F.slot_list_append PySem.F.type_list_append mt_app (pv 1) (pa_cons (pe_bm PySem.F.plainAttrs_str PySem.F.slot_str_rjust PySem.F.type_str_rjust mt_rjF (pe_callTy call_strI rfl T.z_str bt_str (pa_cons (pv 2) pa_nil)) (pa_cons (pe_glob (v := .int 18) rfl T.m_DIGITS.choose_spec ⟨_, rfl⟩) (pa_cons pe_str pa_nil))) pa_nil))))))
    (pss_one (ps_ret (pe_bm PySem.F.plainAttrs_str PySem.F.slot_str_lstrip PySem.F.type_str_lstrip mt_lsC (pe_m1 PySem.F.slot_str_join PySem.F.type_str_join mt_joinS pe_str (pe_revL (pv 1))) (pa_cons pe_str pa_nil)))))))), ?_⟩
    walk_at "rd"
    refine iteD (fun c => absurd (show n < 0 from c) (by omega)) (fun _ => ?_)
    walk_at "rd"
    refine iteD (fun c => ?_) (fun c => ?_)
    · walk_at "rd"
      refine strI_go (Nat.lt_of_le_of_lt z.log (by decide)) ?_
      exact q H (Same.refl H)
    walk_at "rd"
    rename_i D nD
    have hz : n.toNat < (10 ^ 18) ^ 32 := by
      have h1 : n.toNat = n.natAbs := by omega
      have h2 := z.1
      rw [h1]
      exact Nat.lt_of_lt_of_le h2 (by decide +kernel)
    have cst : ∀ k : Nat, n / ((10 : Int) ^ 18) ^ k = ((n.toNat / (10 ^ 18) ^ k : Nat) : Int) := fun k => by
      rw [Int.natCast_ediv, Int.toNat_of_nonneg n0, Int.natCast_pow, Int.natCast_pow]
      rfl
    refine ⟨fun m σ H' => Wall (∃ k : Nat, ∃ u, m = n.toNat / (10 ^ 18) ^ k ∧ Same H H' ∧ H' D = some (.lst ((chk n.toNat k).map V.str)) ∧ k ≤ 32 ∧ σ = [some (.int (n / ((10 : Int) ^ 18) ^ k)), some (.ref D), u]), ⟨n.toNat / (10 ^ 18) ^ 0, ?_⟩, ?_⟩
    · refine wall ⟨0, none, rfl, same_new (Same.refl H) nD, upd_same, by decide, ?_⟩
      rw [Int.pow_zero, Int.ediv_one]
      rfl
    · rintro m σ H' ⟨w1⟩
      obtain ⟨k, u, rfl, sm, eD, hk, rfl⟩ := w1 trivial
      have hc := cst k
      obtain ⟨v, hv⟩ : ∃ v, v = n / ((10 : Int) ^ 18) ^ k := ⟨_, rfl⟩
      rw [← hv]
      rw [← hv] at hc
      have vn : 0 ≤ v := by
        rw [hc]
        exact Int.natCast_nonneg _
      have zv : Sz 1900 v := by
        rw [hv]
        exact z.div
      walk_at "rd"
      refine iteD (fun c => ?_) (fun c => ?_)
      · have c0 : 0 < v := c
        have hk2 : k < 32 := by
          refine Nat.lt_of_le_of_ne hk fun e => ?_
          rw [e, Nat.div_eq_of_lt hz] at hc
          omega
        refine ⟨_, fun σ' H' h => h, ?_⟩
        walk_at "rd"
        refine dvm_go zv (by decide) (by decide) fun p np => ?_
        have r0 : 0 ≤ v % 1000000000000000000 := Int.emod_nonneg _ (by decide)
        have r1 : v % 1000000000000000000 < 1000000000000000000 := Int.emod_lt_of_pos _ (by decide)
        have zr : Sz 60 (v % 1000000000000000000) := ⟨by omega⟩
        walk_at "rd"
        refine strI_go (Nat.lt_of_le_of_lt zr.log (by decide)) ?_
        walk_at "rd"
        refine rjF_go (padOk_of (by decide) (by decide)) rfl ?_
        walk_at "rd"
        refine app_go (hp_upd np eD) (by rw [List.length_map, chk_len, sizeLine_eq]; omega) ?_
        refine ⟨_, ?_, wall ⟨k + 1, some (.int (v % 1000000000000000000)), rfl, same_set (same_new sm np) nD, ?_, by omega, ?_⟩⟩
        · have hp0 : 0 < n.toNat / (10 ^ 18) ^ k := by omega
          rw [Nat.pow_succ, ← Nat.div_div_eq_div_mul]
          exact Nat.div_lt_self hp0 (by decide)
        · rw [upd_same, chk, List.map_append]
          have e : ((n.toNat / (10 ^ 18) ^ k % 10 ^ 18 : Nat) : Int) = v % 1000000000000000000 := by
            rw [hc, Int.natCast_emod]
            rfl
          rw [e]
          rfl
        · have e : n / ((10 : Int) ^ 18) ^ (k + 1) = v / 1000000000000000000 := by
            rw [hv, Int.pow_succ, ← Int.ediv_ediv_of_nonneg (Int.pow_nonneg (by decide))]
            rfl
          rw [e]
          rfl
      · have v0 : v = 0 := by
          have : ¬ (0 < v) := c
          omega
        have hk3 : n.toNat < (10 ^ 18) ^ k := by
          rw [v0] at hc
          exact (Nat.div_eq_zero_iff_lt (Nat.pow_pos (by decide))).mp (by omega)
        refine ⟨⟨_, rfl⟩, ⟨_, rfl, ⟨D, _, rfl, l_of eD, fun b nb => ?_⟩⟩⟩
        rw [← List.map_reverse]
        refine joinS_go (l_of upd_same) ?_ ?_
        · rw [sum18 _ fun y hy => chk_each n.toNat k y (List.mem_reverse.mp hy), List.length_reverse, chk_len]
          show 18 * k + k * 0 ≤ _
          omega
        have hl : (Txt.join Str.empty (chk n.toNat k).reverse).length = 18 * k := by
          have e := tl_join0 (chk n.toNat k).reverse
          rw [chk_tl] at e
          have e2 := congrArg List.length e
          rw [dw_len] at e2
          exact e2
        walk_at "rd"
        refine lsC_go (by show (Txt.join Str.empty (chk n.toNat k).reverse).length ≤ _; rw [hl, sizeLine_eq]; omega) ?_
        have e := chk_str (n := n.toNat) (k := k) (by omega) hk3
        rw [Int.toNat_of_nonneg n0] at e
        have q1 := q (upd H' b (.lst ((chk n.toNat k).reverse.map V.str))) (same_new sm nb)
        rw [← e] at q1
        exact q1
@[irreducible] def spM_show_integer : Sp := fun vs H Q E => ∃ (n : Int), vs = [.int n] ∧ n < 0 ∧ Sz 1900 n ∧ (∀ H', Same H H' → Q (.str (toString n)) H')
theorem okM_show_integer (T : Txt w K mg) : FnOk P w K mg base (L2.CX P w) 3 T.a_show_integer T.fd_show_integer ["value"] spM_show_integer := by
  have ok_show_integer : ∀ T : Txt w K mg, FnOk P w K mg base (L2.CX P w) 2 T.a_show_integer T.fd_show_integer ["value"] spN_show_integer := okN_show_integer
  refine T.F_show_integer.ok sc_show_integer (fun vs H Q E h => ?_) (fun cdv A outer s H vs Q E hr h => ?_)
  · unfold spM_show_integer at h
    obtain ⟨n, rfl, _⟩ := h
    rfl
  · unfold spM_show_integer at h
    obtain ⟨n, rfl, n0, z, q⟩ := h
    refine ⟨_, (pss_cons (ps_if (pt_cmpR op_lt (pv 0) pe_int (nomark _)) (pss_one (ps_ret (pe_joined (.cons pe_str (.cons (pe_fmt (pe_callS (ok_show_integer T) (hr.mono (by decide)) rfl T.m_show_integer T.F_show_integer.kp T.b_show_integer (fun σ => passAt (takes_of rfl rfl rfl rfl) σ) (pa_cons (pe_un un_neg (pv 0)) pa_nil))) .nil))))) pss_nil)
    (pss_cons (ps_if (pt_cmpR op_lt (pv 0) (pe_glob (v := .int 1000000000000000000) rfl T.m_LARGE.choose_spec ⟨_, rfl⟩) (nomark _)) (pss_one (ps_ret (pe_callTy call_strI rfl T.z_str bt_str (pa_cons (pv 0) pa_nil)))) pss_nil)
    (pss_cons (ps_set (i := 1) sc_show_integer.nd rfl (Or.inl rfl) (pe_lst pa_nil))
    (pss_cons (ps_while (passes_of rfl) (pt_cmpR op_gt (pv 0) pe_int (nomark _))
      (pss_cons (ps_asg (pe_callB call_dvm rfl T.z_divmod bt_divmod (pa_cons (pv 0) (pa_cons (pe_glob (v := .int 1000000000000000000) rfl T.m_LARGE.choose_spec ⟨_, rfl⟩) pa_nil))) (pg_tup rfl (pgs_cons (pg_name (i := 0) sc_show_integer.nd rfl (Or.inl rfl)) (pgs_cons (pg_name (i := 2) sc_show_integer.nd rfl (Or.inl rfl)) pgs_nil))))
      (pss_one (ps_expr (pe_bm PySem.F.plainAttrs_list PySem.F.slot_list_append PySem.F.type_list_append mt_app (pv 1) (pa_cons (pe_bm PySem.F.plainAttrs_str PySem.F.slot_str_rjust PySem.F.type_str_rjust mt_rjF (pe_callTy call_strI rfl T.z_str bt_str (pa_cons (pv 2) pa_nil)) (pa_cons (pe_glob (v := .int 18) rfl T.m_DIGITS.choose_spec ⟨_, rfl⟩) (pa_cons pe_str pa_nil))) pa_nil))))))
    (pss_one (ps_ret (pe_bm PySem.F.plainAttrs_str PySem.F.slot_str_lstrip PySem.F.type_str_lstrip mt_lsC (pe_m1 PySem.F.slot_str_join PySem.F.type_str_join mt_joinS pe_str (pe_revL (pv 1))) (pa_cons pe_str pa_nil)))))))), ?_⟩
    walk_at "rd"
    refine iteD (fun _ => ?_) (fun c => absurd n0 c)
    have hl := str_le (i := -n) (by omega) z.neg
    walk_at "rd"
    try (refine ⟨by rw [sizeLine_eq]; exact Nat.le_of_ble_eq_true (by rfl), ?_⟩; walk_at "rd")
    unfold spN_show_integer
    refine ⟨-n, rfl, by omega, z.neg, fun H' sm => ?_⟩
    have hl1 : (toString (-n) : Str).length ≤ sizeLine := by rw [sizeLine_eq]; omega
    have hl2 : (Str.empty ++ Str.ofString "-" ++ (toString (-n) : Str)).length ≤ sizeLine := by
      rw [len_app, sizeLine_eq]
      have : (Str.empty ++ Str.ofString "-" : Str).length = 1 := rfl
      omega
    walk_at "rd"
    have q1 := q H' sm
    rw [str_neg n0] at q1
    exact q1
@[irreducible] def sp_show_integer : Sp := fun vs H Q E => ∃ (n : Int), vs = [.int n] ∧ Sz 1900 n ∧ (∀ H', Same H H' → Q (.str (toString n)) H')
theorem ok_show_integer (T : Txt w K mg) : FnOk P w K mg base (L2.CX P w) 3 T.a_show_integer T.fd_show_integer ["value"] sp_show_integer := by
  refine ⟨fun vs H Q E h => ?_, fun A outer s H args us vs Q E hr he hb hv hs => ?_⟩
  · unfold sp_show_integer at h
    obtain ⟨n, rfl, _⟩ := h
    rfl
  · unfold sp_show_integer at hs
    obtain ⟨n, rfl, z, q⟩ := hs
    by_cases c : 0 ≤ n
    · exact ((okN_show_integer T).mono (by decide)).run A outer s H args us _ Q E hr he hb hv (by
        unfold spN_show_integer
        exact ⟨n, rfl, c, z, q⟩)
    · exact (okM_show_integer T).run A outer s H args us _ Q E hr he hb hv (by
        unfold spM_show_integer
        exact ⟨n, rfl, by omega, z, q⟩)
theorem show_integer_go {H : Hp} {Q : VK} {E : XK} {n : Int} (z : Sz 1900 n) (q : ∀ H', Same H H' → Q (.str (toString n)) H') : sp_show_integer [.int n] H Q E := by
  unfold sp_show_integer
  exact ⟨n, rfl, z, q⟩

/-! ### show_amount -/
/-- no call at all -/
theorem okF_show_amount (T : Txt w K mg) : FnOk P w K mg base (L2.CX P w) 1 T.a_show_amount T.fd_show_amount ["cents"] (fun _ _ _ _ => False) :=
  T.F_show_amount.ok sc_show_amount (fun vs H Q E h => h.elim) (fun cdv A outer s H vs Q E hr h => h.elim)
@[irreducible] def spN_show_amount : Sp := fun vs H Q E => ∃ (n : Int), vs = [.int n] ∧ 0 ≤ n ∧ n < 10000000000000000 ∧ (∀ H', Same H H' → Q (.str (amt n)) H')
theorem okN_show_amount (T : Txt w K mg) : FnOk P w K mg base (L2.CX P w) 4 T.a_show_amount T.fd_show_amount ["cents"] spN_show_amount := by
  have ok_show_amount : ∀ T : Txt w K mg, FnOk P w K mg base (L2.CX P w) 1 T.a_show_amount T.fd_show_amount ["cents"] (fun _ _ _ _ => False) := okF_show_amount
  refine T.F_show_amount.ok sc_show_amount (fun vs H Q E h => ?_) (fun cdv A outer s H vs Q E hr h => ?_)
  · unfold spN_show_amount at h
    obtain ⟨n, rfl, _⟩ := h
    rfl
  · unfold spN_show_amount at h
    obtain ⟨n, rfl, n0, n1, q⟩ := h
    refine ⟨_, (pss_cons (ps_if (pt_cmpR op_lt (pv 0) pe_int (nomark _)) (pss_one (ps_ret (pe_joined (.cons pe_str (.cons (pe_fmt (pe_callS (ok_show_amount T) (hr.mono (by decide)) rfl T.m_show_amount T.F_show_amount.kp T.b_show_amount (fun σ => passAt (takes_of rfl rfl rfl rfl) σ) (pa_cons (pe_un un_neg (pv 0)) pa_nil))) .nil))))) pss_nil)
    (pss_cons (ps_asg (pe_callB call_dvm rfl T.z_divmod bt_divmod (pa_cons (pv 0) (pa_cons pe_int pa_nil))) (pg_tup rfl (pgs_cons (pg_name (i := 1) sc_show_amount.nd rfl (Or.inl rfl)) (pgs_cons (pg_name (i := 2) sc_show_amount.nd rfl (Or.inl rfl)) pgs_nil))))
    (pss_one (ps_ret (pe_joined (.cons (pe_fmt (pe_callS (ok_show_integer T) (hr.mono (by decide)) rfl T.m_show_integer T.F_show_integer.kp T.b_show_integer (fun σ => passAt (takes_of rfl rfl rfl rfl) σ) (pa_cons (pv 1) pa_nil))) (.cons pe_str (.cons (pe_fmtZ (spec := "02d") T.nd (by decide +kernel) (Nat.le_of_ble_eq_true (by rfl)) (pv 2) (pe_joined1 pe_str)) .nil)))))))), ?_⟩
    walk_at "rd"
    refine iteD (fun c => absurd (show n < 0 from c) (by omega)) (fun _ => ?_)
    walk_at "rd"
    refine dvm_go (n := 100) ⟨by omega⟩ (by decide) (by decide) fun p np => ?_
    walk_at "rd"
    refine show_integer_go ⟨Nat.lt_of_lt_of_le (show _ < 2 ^ 80 by omega) (Nat.pow_le_pow_right (by decide) (by decide))⟩ fun H' sm => ?_
    walk_at "rd"
    refine fmt_go ?_
    have r1 : 0 ≤ n % 100 ∧ n % 100 < 100 := by omega
    have lt : LL 2 (twoT (n % 100)) := ⟨Nat.le_of_eq (two_len r1)⟩
    have q1 := q H' ((same_new (o := .tup [.int (n / 100), .int (n % 100)]) (Same.refl _) np).trans sm)
    rw [amt_pos n0] at q1
    walk_at "rd"
    refine ⟨by omega, by omega, ?_⟩
    rw [two_spec r1]
    walk_at "rd"
    simp only [emp_app]
    exact q1
@[irreducible] def spM_show_amount : Sp := fun vs H Q E => ∃ (n : Int), vs = [.int n] ∧ n < 0 ∧ -10000000000000000 < n ∧ (∀ H', Same H H' → Q (.str (amt n)) H')
theorem okM_show_amount (T : Txt w K mg) : FnOk P w K mg base (L2.CX P w) 5 T.a_show_amount T.fd_show_amount ["cents"] spM_show_amount := by
  have ok_show_amount : ∀ T : Txt w K mg, FnOk P w K mg base (L2.CX P w) 4 T.a_show_amount T.fd_show_amount ["cents"] spN_show_amount := okN_show_amount
  refine T.F_show_amount.ok sc_show_amount (fun vs H Q E h => ?_) (fun cdv A outer s H vs Q E hr h => ?_)
  · unfold spM_show_amount at h
    obtain ⟨n, rfl, _⟩ := h
    rfl
  · unfold spM_show_amount at h
    obtain ⟨n, rfl, n0, n1, q⟩ := h
    refine ⟨_, (pss_cons (ps_if (pt_cmpR op_lt (pv 0) pe_int (nomark _)) (pss_one (ps_ret (pe_joined (.cons pe_str (.cons (pe_fmt (pe_callS (ok_show_amount T) (hr.mono (by decide)) rfl T.m_show_amount T.F_show_amount.kp T.b_show_amount (fun σ => passAt (takes_of rfl rfl rfl rfl) σ) (pa_cons (pe_un un_neg (pv 0)) pa_nil))) .nil))))) pss_nil)
    (pss_cons (ps_asg (pe_callB call_dvm rfl T.z_divmod bt_divmod (pa_cons (pv 0) (pa_cons pe_int pa_nil))) (pg_tup rfl (pgs_cons (pg_name (i := 1) sc_show_amount.nd rfl (Or.inl rfl)) (pgs_cons (pg_name (i := 2) sc_show_amount.nd rfl (Or.inl rfl)) pgs_nil))))
    (pss_one (ps_ret (pe_joined (.cons (pe_fmt (pe_callS (ok_show_integer T) (hr.mono (by decide)) rfl T.m_show_integer T.F_show_integer.kp T.b_show_integer (fun σ => passAt (takes_of rfl rfl rfl rfl) σ) (pa_cons (pv 1) pa_nil))) (.cons pe_str (.cons (pe_fmtZ (spec := "02d") T.nd (by decide +kernel) (Nat.le_of_ble_eq_true (by rfl)) (pv 2) (pe_joined1 pe_str)) .nil)))))))), ?_⟩
    walk_at "rd"
    refine iteD (fun _ => ?_) (fun c => absurd n0 c)
    walk_at "rd"
    unfold spN_show_amount
    refine ⟨-n, rfl, by omega, by omega, fun H' sm => ?_⟩
    walk_at "rd"
    have q1 := q H' sm
    rw [amt_neg n0] at q1
    rw [emp_app]
    exact q1
@[irreducible] def sp_show_amount : Sp := fun vs H Q E => ∃ (n : Int), vs = [.int n] ∧ -10000000000000000 < n ∧ n < 10000000000000000 ∧ (∀ H', Same H H' → Q (.str (amt n)) H')
theorem ok_show_amount (T : Txt w K mg) : FnOk P w K mg base (L2.CX P w) 5 T.a_show_amount T.fd_show_amount ["cents"] sp_show_amount := by
  refine ⟨fun vs H Q E h => ?_, fun A outer s H args us vs Q E hr he hb hv hs => ?_⟩
  · unfold sp_show_amount at h
    obtain ⟨n, rfl, _⟩ := h
    rfl
  · unfold sp_show_amount at hs
    obtain ⟨n, rfl, n0, n1, q⟩ := hs
    by_cases c : 0 ≤ n
    · exact ((okN_show_amount T).mono (by decide)).run A outer s H args us _ Q E hr he hb hv (by
        unfold spN_show_amount
        exact ⟨n, rfl, c, n1, q⟩)
    · exact (okM_show_amount T).run A outer s H args us _ Q E hr he hb hv (by
        unfold spM_show_amount
        exact ⟨n, rfl, by omega, n0, q⟩)
theorem show_amount_go {H : Hp} {Q : VK} {E : XK} {n : Int} (h0 : -10000000000000000 < n) (h1 : n < 10000000000000000) (q : ∀ H', Same H H' → Q (.str (amt n)) H') : sp_show_amount [.int n] H Q E := by
  unfold sp_show_amount
  exact ⟨n, rfl, h0, h1, q⟩

/-! ### opening_line -/
@[irreducible] def sp_opening_line (T : Txt w K mg) : Sp := fun vs H Q E => ∃ (c : Addr) (t : TM) (os : List Str), vs = [.ref c] ∧ TermsAt K T.c_Terms H c t os ∧ (∀ H', Same H H' → Q (.str (openL t)) H')
theorem ok_opening_line (T : Txt w K mg) : FnOk P w K mg base (L2.CX P w) 6 T.a_opening_line T.fd_opening_line ["terms"] (sp_opening_line T) := by
  refine T.F_opening_line.ok sc_opening_line (fun vs H Q E h => ?_) (fun cdv A outer s H vs Q E hr h => ?_)
  · unfold sp_opening_line at h
    obtain ⟨c, t, os, rfl, _⟩ := h
    rfl
  · unfold sp_opening_line at h
    obtain ⟨c, t, os, rfl, St, q⟩ := h
    refine ⟨_, (pss_cons (ps_set (i := 1) sc_opening_line.nd rfl (Or.inl rfl) (pe_joined (.cons pe_str (.cons (pe_fmt (pe_callS (ok_show_amount T) (hr.mono (by decide)) rfl T.m_show_amount T.F_show_amount.kp T.b_show_amount (fun σ => passAt (takes_of rfl rfl rfl rfl) σ) (pa_cons (pe_fld (pv 0) rfl) pa_nil))) .nil))))
    (pss_cons (ps_cut (ps_if (pt_cmpR op_gt (pe_fld (pv 0) rfl) pe_int (nomark _)) (pss_one (ps_set (i := 1) sc_opening_line.nd rfl (Or.inl rfl) (pe_joined (.cons (pe_fmt (pv 1)) (.cons pe_str (.cons (pe_fmt (pe_fld (pv 0) rfl)) .nil)))))) pss_nil))
    (pss_one (ps_ret (pv 1))))), ?_⟩
    have g := (good_of St.good).1
    obtain ⟨dx, hi⟩ := St.ins
    have g1 := g.count
    have g2 := every_bd g.every
    have g3 := g.due
    have g4 := g.free
    have g5 := g.ofee
    have g6 := g.opart
    have g7 := g.rate
    have g8 := g.lowest
    have g9 := g.highest
    have sh := g.short
    have l1 : LL 1000000 t.scheme := ⟨sh.scheme⟩
    have l2 : LL 1000000 t.cal := ⟨sh.cal⟩
    have l3 : LL 1000000 t.rule := ⟨sh.rule⟩
    have l4 : LL 1000000 t.index := ⟨term_index St.good⟩
    unfold openL at q
    walk_at "rd"
    refine show_amount_go (by omega) (by omega) fun H1 s1 => ?_
    have hi1 := s1 _ _ hi
    walk_at "rd"
    refine ⟨fun σ' H' => Wall (Same H H' ∧ σ' = [some (.ref c), some (.str (if 0 < t.opart then "fees opening " ++ amt t.ofee ++ " and " ++ S t.opart else "fees opening " ++ amt t.ofee))]), ?_, ?_⟩
    · walk_at "rd"
      refine iteD (fun k => ?_) (fun k => ?_)
      · rw [if_pos k]
        have le : LL 2000000 (Str.empty ++ "fees opening " ++ amt t.ofee) := LL.mono (by walk_at "ll") (by decide)
        walk_at "rd"
        exact wall ⟨s1, by simp only [emp_app]; rfl⟩
      · rw [if_neg k]
        exact wall ⟨s1, by simp only [emp_app]; rfl⟩
    rintro σ' H' ⟨w1⟩
    obtain ⟨s', rfl⟩ := w1 trivial
    walk_at "rd"
    exact q _ s' 
theorem opening_line_go (T : Txt w K mg) {H : Hp} {Q : VK} {E : XK} {c : Addr} {t : TM} {os : List Str} (h : TermsAt K T.c_Terms H c t os) (q : ∀ H', Same H H' → Q (.str (openL t)) H') : sp_opening_line T [.ref c] H Q E := by
  unfold sp_opening_line
  exact ⟨c, t, os, rfl, h, q⟩

/-! ### clause_lines -/
/-- the lines with the names of their fields -/
def ClsAt (H : Hp) (ps : List Addr) (t : TM) (os : List Str) : Prop := ∀ (i : Nat) (a : Addr), ps[i]? = some a → ∃ (b : Addr) (ns : List Str) (l : Str), nmsP[i]? = some ns ∧ (lnsP t os)[i]? = some l ∧ H a = some (.tup [.ref b, .str l]) ∧ H b = some (.tup (ns.map V.str))
@[irreducible] def sp_clause_lines (T : Txt w K mg) : Sp := fun vs H Q E => ∃ (c : Addr) (t : TM) (os : List Str), vs = [.ref c] ∧ TermsAt K T.c_Terms H c t os ∧ (∀ p H' ps, Same H H' → H' p = some (.lst (ps.map V.ref)) → ps.length = 12 → ClsAt H' ps t os → Q (.ref p) H')
theorem ok_clause_lines (T : Txt w K mg) : FnOk P w K mg base (L2.CX P w) 7 T.a_clause_lines T.fd_clause_lines ["terms"] (sp_clause_lines T) := by
  refine T.F_clause_lines.ok sc_clause_lines (fun vs H Q E h => ?_) (fun cdv A outer s H vs Q E hr h => ?_)
  · unfold sp_clause_lines at h
    obtain ⟨c, t, os, rfl, _⟩ := h
    rfl
  · unfold sp_clause_lines at h
    obtain ⟨c, t, os, rfl, St, q⟩ := h
    refine ⟨_, (pss_one (ps_ret (pe_lst (pa_cons (pe_tup (pa_cons (pe_tup (pa_cons pe_str pa_nil)) (pa_cons (pe_callS (ok_payments_line T) (hr.mono (by decide)) rfl T.m_payments_line T.F_payments_line.kp T.b_payments_line (fun σ => passAt (takes_of rfl rfl rfl rfl) σ) (pa_cons (pv 0) pa_nil)) pa_nil))) (pa_cons (pe_tup (pa_cons (pe_tup (pa_cons pe_str pa_nil)) (pa_cons (pe_joined (.cons pe_str (.cons (pe_fmt (pe_fld (pv 0) rfl)) (.cons pe_str .nil)))) pa_nil))) (pa_cons (pe_tup (pa_cons (pe_tup (pa_cons pe_str (pa_cons pe_str (pa_cons pe_str pa_nil)))) (pa_cons (pe_callS (ok_due_line T) (hr.mono (by decide)) rfl T.m_due_line T.F_due_line.kp T.b_due_line (fun σ => passAt (takes_of rfl rfl rfl rfl) σ) (pa_cons (pv 0) pa_nil)) pa_nil))) (pa_cons (pe_tup (pa_cons (pe_tup (pa_cons pe_str pa_nil)) (pa_cons (pe_callS (ok_rate_line T) (hr.mono (by decide)) rfl T.m_rate_line T.F_rate_line.kp T.b_rate_line (fun σ => passAt (takes_of rfl rfl rfl rfl) σ) (pa_cons (pv 0) pa_nil)) pa_nil))) (pa_cons (pe_tup (pa_cons (pe_tup (pa_cons pe_str pa_nil)) (pa_cons (pe_joined (.cons pe_str (.cons (pe_fmt (pe_fld (pv 0) rfl)) .nil))) pa_nil))) (pa_cons (pe_tup (pa_cons (pe_tup (pa_cons pe_str pa_nil)) (pa_cons (pe_joined (.cons pe_str (.cons (pe_fmt (pe_fld (pv 0) rfl)) .nil))) pa_nil))) (pa_cons (pe_tup (pa_cons (pe_tup (pa_cons pe_str (pa_cons pe_str pa_nil))) (pa_cons (pe_callS (ok_opening_line T) (hr.mono (by decide)) rfl T.m_opening_line T.F_opening_line.kp T.b_opening_line (fun σ => passAt (takes_of rfl rfl rfl rfl) σ) (pa_cons (pv 0) pa_nil)) pa_nil))) (pa_cons (pe_tup (pa_cons (pe_tup (pa_cons pe_str pa_nil)) (pa_cons (pe_joined (.cons pe_str (.cons (pe_fmt (pe_callS (ok_show_amount T) (hr.mono (by decide)) rfl T.m_show_amount T.F_show_amount.kp T.b_show_amount (fun σ => passAt (takes_of rfl rfl rfl rfl) σ) (pa_cons (pe_fld (pv 0) rfl) pa_nil))) .nil))) pa_nil))) (pa_cons (pe_tup (pa_cons (pe_tup (pa_cons pe_str (pa_cons pe_str pa_nil))) (pa_cons (pe_joined (.cons pe_str (.cons (pe_fmt (pe_callS (ok_show_amount T) (hr.mono (by decide)) rfl T.m_show_amount T.F_show_amount.kp T.b_show_amount (fun σ => passAt (takes_of rfl rfl rfl rfl) σ) (pa_cons (pe_fld (pv 0) rfl) pa_nil))) (.cons pe_str (.cons (pe_fmt (pe_fld (pv 0) rfl)) (.cons pe_str .nil)))))) pa_nil))) (pa_cons (pe_tup (pa_cons (pe_tup (pa_cons pe_str (pa_cons pe_str pa_nil))) (pa_cons (pe_joined (.cons pe_str (.cons (pe_fmt (pe_fld (pv 0) rfl)) (.cons pe_str (.cons (pe_fmt (pe_fld (pv 0) rfl)) (.cons pe_str .nil)))))) pa_nil))) (pa_cons (pe_tup (pa_cons (pe_tup (pa_cons pe_str pa_nil)) (pa_cons (pe_joined (.cons pe_str (.cons (pe_fmt (pe_m1 PySem.F.slot_str_join PySem.F.type_str_join mt_joinS pe_str (pe_fld (pv 0) rfl))) .nil))) pa_nil))) (pa_cons (pe_tup (pa_cons (pe_tup (pa_cons pe_str pa_nil)) (pa_cons (pe_joined (.cons pe_str (.cons (pe_fmt (pe_callS (ok_show_percent T) (hr.mono (by decide)) rfl T.m_show_percent T.F_show_percent.kp T.b_show_percent (fun σ => passAt (takes_of rfl rfl rfl rfl) σ) (pa_cons (pe_fld (pv 0) rfl) pa_nil))) .nil))) pa_nil))) pa_nil))))))))))))))), ?_⟩
    have g := (good_of St.good).1
    have go := (good_of St.good).2
    obtain ⟨dx, hi⟩ := St.ins
    have g2 := every_bd g.every
    have g7 := g.pfee
    have g8 := g.lfee
    have g9 := g.grace
    have g10 := g.epart
    have g11 := g.emonths
    have g12 := g.pen
    have sh := g.short
    have l1 : LL 1000000 t.conv := ⟨sh.conv⟩
    have l2 : LL 1000000 t.mode := ⟨sh.mode⟩
    have hoL : ∀ x ∈ os, x.length ≤ 20 := fun x hx => by
      have : ∀ y ∈ usualO, y.length ≤ 20 := by decide +kernel
      exact this x (go.mem_iff.mp hx)
    have l3' : os.length = 3 := go.length_eq
    have oz : (os.map (·.length)).sum + os.length * (", " : Str).length ≤ 16777216 := by
      obtain ⟨y1, y2, y3, rfl⟩ : ∃ a b c, os = [a, b, c] := by
        match os, l3' with
        | [a, b, c], _ => exact ⟨a, b, c, rfl⟩
      have k1 := hoL y1 (by simp)
      have k2 := hoL y2 (by simp)
      have k3 := hoL y3 (by simp)
      have k4 : (", " : Str).length = 2 := by decide +kernel
      simp [k4]
      omega
    have l3 : LL 100 (Txt.join ", " os) := by
      obtain ⟨y1, y2, y3, rfl⟩ : ∃ a b c, os = [a, b, c] := by
        match os, l3' with
        | [a, b, c], _ => exact ⟨a, b, c, rfl⟩
      have k1 : LL 20 y1 := ⟨hoL y1 (by simp)⟩
      have k2 : LL 20 y2 := ⟨hoL y2 (by simp)⟩
      have k3 : LL 20 y3 := ⟨hoL y3 (by simp)⟩
      rw [join3]
      exact (k1.app ((LL.lit (n := 2) (by decide +kernel)).app (k2.app ((LL.lit (n := 2) (by decide +kernel)).app k3)))).mono (by decide)
    walk_at "rd"
    rename_i b0 nb0
    have v0 := (same_new (o := .tup [.str "count"]) (Same.refl _) nb0)
    have eb0 : (upd H b0 (.tup [.str "count"])) b0 = some (.tup [.str "count"]) := upd_same
    have w0 : Same H _ := v0
    refine payments_line_go T (St.same w0) fun H1 s1 => ?_
    have x1 : Same H H1 := w0.trans s1
    have h1 := x1 _ _ hi
    walk_at "rd"
    rename_i a0 na0 b1 nb1 a1 na1 b2 nb2
    have v1 := (same_new (o := .tup [.str "due_on", .str "rule", .str "calendar"]) (same_new (o := .tup [.ref b1, .str (Str.empty ++ "every " ++ S t.every ++ " months")]) (same_new (o := .tup [.str "every"]) (same_new (o := .tup [.ref b0, .str (payL t)]) (Same.refl _) na0) nb1) na1) nb2)
    have ea0 : (upd (upd (upd (upd H1 a0 (.tup [.ref b0, .str (payL t)])) b1 (.tup [.str "every"])) a1 (.tup [.ref b1, .str (Str.empty ++ "every " ++ S t.every ++ " months")])) b2 (.tup [.str "due_on", .str "rule", .str "calendar"])) a0 = some (.tup [.ref b0, .str (payL t)]) := (hp_upd nb2 (hp_upd na1 (hp_upd nb1 upd_same)))
    have eb1 : (upd (upd (upd (upd H1 a0 (.tup [.ref b0, .str (payL t)])) b1 (.tup [.str "every"])) a1 (.tup [.ref b1, .str (Str.empty ++ "every " ++ S t.every ++ " months")])) b2 (.tup [.str "due_on", .str "rule", .str "calendar"])) b1 = some (.tup [.str "every"]) := (hp_upd nb2 (hp_upd na1 upd_same))
    have ea1 : (upd (upd (upd (upd H1 a0 (.tup [.ref b0, .str (payL t)])) b1 (.tup [.str "every"])) a1 (.tup [.ref b1, .str (Str.empty ++ "every " ++ S t.every ++ " months")])) b2 (.tup [.str "due_on", .str "rule", .str "calendar"])) a1 = some (.tup [.ref b1, .str (Str.empty ++ "every " ++ S t.every ++ " months")]) := (hp_upd nb2 upd_same)
    have eb2 : (upd (upd (upd (upd H1 a0 (.tup [.ref b0, .str (payL t)])) b1 (.tup [.str "every"])) a1 (.tup [.ref b1, .str (Str.empty ++ "every " ++ S t.every ++ " months")])) b2 (.tup [.str "due_on", .str "rule", .str "calendar"])) b2 = some (.tup [.str "due_on", .str "rule", .str "calendar"]) := upd_same
    have w1 : Same H _ := x1.trans v1
    refine due_line_go T (St.same w1) fun H2 s2 => ?_
    have x2 : Same H H2 := w1.trans s2
    have h2 := x2 _ _ hi
    walk_at "rd"
    rename_i a2 na2 b3 nb3
    have v2 := (same_new (o := .tup [.str "rate"]) (same_new (o := .tup [.ref b2, .str (dueL t)]) (Same.refl _) na2) nb3)
    have ea2 : (upd (upd H2 a2 (.tup [.ref b2, .str (dueL t)])) b3 (.tup [.str "rate"])) a2 = some (.tup [.ref b2, .str (dueL t)]) := (hp_upd nb3 upd_same)
    have eb3 : (upd (upd H2 a2 (.tup [.ref b2, .str (dueL t)])) b3 (.tup [.str "rate"])) b3 = some (.tup [.str "rate"]) := upd_same
    have w2 : Same H _ := x2.trans v2
    refine rate_line_go T (St.same w2) fun H3 s3 => ?_
    have x3 : Same H H3 := w2.trans s3
    have h3 := x3 _ _ hi
    walk_at "rd"
    rename_i a3 na3 b4 nb4 a4 na4 b5 nb5 a5 na5 b6 nb6
    have v3 := (same_new (o := .tup [.str "opening_fee", .str "opening_part"]) (same_new (o := .tup [.ref b5, .str (Str.empty ++ "round " ++ t.mode)]) (same_new (o := .tup [.str "mode"]) (same_new (o := .tup [.ref b4, .str (Str.empty ++ "days " ++ t.conv)]) (same_new (o := .tup [.str "convention"]) (same_new (o := .tup [.ref b3, .str (rateL t)]) (Same.refl _) na3) nb4) na4) nb5) na5) nb6)
    have ea3 : (upd (upd (upd (upd (upd (upd H3 a3 (.tup [.ref b3, .str (rateL t)])) b4 (.tup [.str "convention"])) a4 (.tup [.ref b4, .str (Str.empty ++ "days " ++ t.conv)])) b5 (.tup [.str "mode"])) a5 (.tup [.ref b5, .str (Str.empty ++ "round " ++ t.mode)])) b6 (.tup [.str "opening_fee", .str "opening_part"])) a3 = some (.tup [.ref b3, .str (rateL t)]) := (hp_upd nb6 (hp_upd na5 (hp_upd nb5 (hp_upd na4 (hp_upd nb4 upd_same)))))
    have eb4 : (upd (upd (upd (upd (upd (upd H3 a3 (.tup [.ref b3, .str (rateL t)])) b4 (.tup [.str "convention"])) a4 (.tup [.ref b4, .str (Str.empty ++ "days " ++ t.conv)])) b5 (.tup [.str "mode"])) a5 (.tup [.ref b5, .str (Str.empty ++ "round " ++ t.mode)])) b6 (.tup [.str "opening_fee", .str "opening_part"])) b4 = some (.tup [.str "convention"]) := (hp_upd nb6 (hp_upd na5 (hp_upd nb5 (hp_upd na4 upd_same))))
    have ea4 : (upd (upd (upd (upd (upd (upd H3 a3 (.tup [.ref b3, .str (rateL t)])) b4 (.tup [.str "convention"])) a4 (.tup [.ref b4, .str (Str.empty ++ "days " ++ t.conv)])) b5 (.tup [.str "mode"])) a5 (.tup [.ref b5, .str (Str.empty ++ "round " ++ t.mode)])) b6 (.tup [.str "opening_fee", .str "opening_part"])) a4 = some (.tup [.ref b4, .str (Str.empty ++ "days " ++ t.conv)]) := (hp_upd nb6 (hp_upd na5 (hp_upd nb5 upd_same)))
    have eb5 : (upd (upd (upd (upd (upd (upd H3 a3 (.tup [.ref b3, .str (rateL t)])) b4 (.tup [.str "convention"])) a4 (.tup [.ref b4, .str (Str.empty ++ "days " ++ t.conv)])) b5 (.tup [.str "mode"])) a5 (.tup [.ref b5, .str (Str.empty ++ "round " ++ t.mode)])) b6 (.tup [.str "opening_fee", .str "opening_part"])) b5 = some (.tup [.str "mode"]) := (hp_upd nb6 (hp_upd na5 upd_same))
    have ea5 : (upd (upd (upd (upd (upd (upd H3 a3 (.tup [.ref b3, .str (rateL t)])) b4 (.tup [.str "convention"])) a4 (.tup [.ref b4, .str (Str.empty ++ "days " ++ t.conv)])) b5 (.tup [.str "mode"])) a5 (.tup [.ref b5, .str (Str.empty ++ "round " ++ t.mode)])) b6 (.tup [.str "opening_fee", .str "opening_part"])) a5 = some (.tup [.ref b5, .str (Str.empty ++ "round " ++ t.mode)]) := (hp_upd nb6 upd_same)
    have eb6 : (upd (upd (upd (upd (upd (upd H3 a3 (.tup [.ref b3, .str (rateL t)])) b4 (.tup [.str "convention"])) a4 (.tup [.ref b4, .str (Str.empty ++ "days " ++ t.conv)])) b5 (.tup [.str "mode"])) a5 (.tup [.ref b5, .str (Str.empty ++ "round " ++ t.mode)])) b6 (.tup [.str "opening_fee", .str "opening_part"])) b6 = some (.tup [.str "opening_fee", .str "opening_part"]) := upd_same
    have w3 : Same H _ := x3.trans v3
    refine opening_line_go T (St.same w3) fun H4 s4 => ?_
    have x4 : Same H H4 := w3.trans s4
    have h4 := x4 _ _ hi
    walk_at "rd"
    rename_i a6 na6 b7 nb7
    have v4 := (same_new (o := .tup [.str "period_fee"]) (same_new (o := .tup [.ref b6, .str (openL t)]) (Same.refl _) na6) nb7)
    have ea6 : (upd (upd H4 a6 (.tup [.ref b6, .str (openL t)])) b7 (.tup [.str "period_fee"])) a6 = some (.tup [.ref b6, .str (openL t)]) := (hp_upd nb7 upd_same)
    have eb7 : (upd (upd H4 a6 (.tup [.ref b6, .str (openL t)])) b7 (.tup [.str "period_fee"])) b7 = some (.tup [.str "period_fee"]) := upd_same
    have w4 : Same H _ := x4.trans v4
    refine show_amount_go (by omega) (by omega) fun H5 s5 => ?_
    have x5 : Same H H5 := w4.trans s5
    have h5 := x5 _ _ hi
    walk_at "rd"
    rename_i a7 na7 b8 nb8
    have v5 := (same_new (o := .tup [.str "late_fee", .str "grace"]) (same_new (o := .tup [.ref b7, .str (Str.empty ++ "fees period " ++ amt t.pfee)]) (Same.refl _) na7) nb8)
    have ea7 : (upd (upd H5 a7 (.tup [.ref b7, .str (Str.empty ++ "fees period " ++ amt t.pfee)])) b8 (.tup [.str "late_fee", .str "grace"])) a7 = some (.tup [.ref b7, .str (Str.empty ++ "fees period " ++ amt t.pfee)]) := (hp_upd nb8 upd_same)
    have eb8 : (upd (upd H5 a7 (.tup [.ref b7, .str (Str.empty ++ "fees period " ++ amt t.pfee)])) b8 (.tup [.str "late_fee", .str "grace"])) b8 = some (.tup [.str "late_fee", .str "grace"]) := upd_same
    have w5 : Same H _ := x5.trans v5
    refine show_amount_go (by omega) (by omega) fun H6 s6 => ?_
    have x6 : Same H H6 := w5.trans s6
    have h6 := x6 _ _ hi
    have oa6 := same_tup x6 St.ordAt
    walk_at "rd"
    rename_i a8 na8 b9 nb9 a9 na9 b10 nb10
    refine ⟨⟨_, rfl⟩, ?_⟩
    walk_at "rd"
    refine joinT_go (tup_upd nb10 (tup_upd na9 (tup_upd nb9 (tup_upd na8 oa6)))) oz ?_
    walk_at "rd"
    rename_i a10 na10 b11 nb11
    have v6 := (same_new (o := .tup [.str "penalty"]) (same_new (o := .tup [.ref b10, .str (Str.empty ++ "use " ++ Txt.join ", " os)]) (same_new (o := .tup [.str "order"]) (same_new (o := .tup [.ref b9, .str (Str.empty ++ "fees early " ++ S t.epart ++ " within " ++ S t.emonths ++ " months")]) (same_new (o := .tup [.str "early_part", .str "early_months"]) (same_new (o := .tup [.ref b8, .str (Str.empty ++ "fees late " ++ amt t.lfee ++ " after " ++ S t.grace ++ " days")]) (Same.refl _) na8) nb9) na9) nb10) na10) nb11)
    have ea8 : (upd (upd (upd (upd (upd (upd H6 a8 (.tup [.ref b8, .str (Str.empty ++ "fees late " ++ amt t.lfee ++ " after " ++ S t.grace ++ " days")])) b9 (.tup [.str "early_part", .str "early_months"])) a9 (.tup [.ref b9, .str (Str.empty ++ "fees early " ++ S t.epart ++ " within " ++ S t.emonths ++ " months")])) b10 (.tup [.str "order"])) a10 (.tup [.ref b10, .str (Str.empty ++ "use " ++ Txt.join ", " os)])) b11 (.tup [.str "penalty"])) a8 = some (.tup [.ref b8, .str (Str.empty ++ "fees late " ++ amt t.lfee ++ " after " ++ S t.grace ++ " days")]) := (hp_upd nb11 (hp_upd na10 (hp_upd nb10 (hp_upd na9 (hp_upd nb9 upd_same)))))
    have eb9 : (upd (upd (upd (upd (upd (upd H6 a8 (.tup [.ref b8, .str (Str.empty ++ "fees late " ++ amt t.lfee ++ " after " ++ S t.grace ++ " days")])) b9 (.tup [.str "early_part", .str "early_months"])) a9 (.tup [.ref b9, .str (Str.empty ++ "fees early " ++ S t.epart ++ " within " ++ S t.emonths ++ " months")])) b10 (.tup [.str "order"])) a10 (.tup [.ref b10, .str (Str.empty ++ "use " ++ Txt.join ", " os)])) b11 (.tup [.str "penalty"])) b9 = some (.tup [.str "early_part", .str "early_months"]) := (hp_upd nb11 (hp_upd na10 (hp_upd nb10 (hp_upd na9 upd_same))))
    have ea9 : (upd (upd (upd (upd (upd (upd H6 a8 (.tup [.ref b8, .str (Str.empty ++ "fees late " ++ amt t.lfee ++ " after " ++ S t.grace ++ " days")])) b9 (.tup [.str "early_part", .str "early_months"])) a9 (.tup [.ref b9, .str (Str.empty ++ "fees early " ++ S t.epart ++ " within " ++ S t.emonths ++ " months")])) b10 (.tup [.str "order"])) a10 (.tup [.ref b10, .str (Str.empty ++ "use " ++ Txt.join ", " os)])) b11 (.tup [.str "penalty"])) a9 = some (.tup [.ref b9, .str (Str.empty ++ "fees early " ++ S t.epart ++ " within " ++ S t.emonths ++ " months")]) := (hp_upd nb11 (hp_upd na10 (hp_upd nb10 upd_same)))
    have eb10 : (upd (upd (upd (upd (upd (upd H6 a8 (.tup [.ref b8, .str (Str.empty ++ "fees late " ++ amt t.lfee ++ " after " ++ S t.grace ++ " days")])) b9 (.tup [.str "early_part", .str "early_months"])) a9 (.tup [.ref b9, .str (Str.empty ++ "fees early " ++ S t.epart ++ " within " ++ S t.emonths ++ " months")])) b10 (.tup [.str "order"])) a10 (.tup [.ref b10, .str (Str.empty ++ "use " ++ Txt.join ", " os)])) b11 (.tup [.str "penalty"])) b10 = some (.tup [.str "order"]) := (hp_upd nb11 (hp_upd na10 upd_same))
    have ea10 : (upd (upd (upd (upd (upd (upd H6 a8 (.tup [.ref b8, .str (Str.empty ++ "fees late " ++ amt t.lfee ++ " after " ++ S t.grace ++ " days")])) b9 (.tup [.str "early_part", .str "early_months"])) a9 (.tup [.ref b9, .str (Str.empty ++ "fees early " ++ S t.epart ++ " within " ++ S t.emonths ++ " months")])) b10 (.tup [.str "order"])) a10 (.tup [.ref b10, .str (Str.empty ++ "use " ++ Txt.join ", " os)])) b11 (.tup [.str "penalty"])) a10 = some (.tup [.ref b10, .str (Str.empty ++ "use " ++ Txt.join ", " os)]) := (hp_upd nb11 upd_same)
    have eb11 : (upd (upd (upd (upd (upd (upd H6 a8 (.tup [.ref b8, .str (Str.empty ++ "fees late " ++ amt t.lfee ++ " after " ++ S t.grace ++ " days")])) b9 (.tup [.str "early_part", .str "early_months"])) a9 (.tup [.ref b9, .str (Str.empty ++ "fees early " ++ S t.epart ++ " within " ++ S t.emonths ++ " months")])) b10 (.tup [.str "order"])) a10 (.tup [.ref b10, .str (Str.empty ++ "use " ++ Txt.join ", " os)])) b11 (.tup [.str "penalty"])) b11 = some (.tup [.str "penalty"]) := upd_same
    have w6 : Same H _ := x6.trans v6
    refine show_percent_go g12.1 g12.2 fun H7 s7 => ?_
    have x7 : Same H H7 := w6.trans s7
    have h7 := x7 _ _ hi
    walk_at "rd"
    rename_i a11 na11 p np
    have v7 := (same_new (o := .lst [.ref a0, .ref a1, .ref a2, .ref a3, .ref a4, .ref a5, .ref a6, .ref a7, .ref a8, .ref a9, .ref a10, .ref a11]) (same_new (o := .tup [.ref b11, .str (Str.empty ++ "penalty " ++ pct t.pen)]) (Same.refl _) na11) np)
    have ea11 : (upd (upd H7 a11 (.tup [.ref b11, .str (Str.empty ++ "penalty " ++ pct t.pen)])) p (.lst [.ref a0, .ref a1, .ref a2, .ref a3, .ref a4, .ref a5, .ref a6, .ref a7, .ref a8, .ref a9, .ref a10, .ref a11])) a11 = some (.tup [.ref b11, .str (Str.empty ++ "penalty " ++ pct t.pen)]) := (hp_upd np upd_same)
    have ep : (upd (upd H7 a11 (.tup [.ref b11, .str (Str.empty ++ "penalty " ++ pct t.pen)])) p (.lst [.ref a0, .ref a1, .ref a2, .ref a3, .ref a4, .ref a5, .ref a6, .ref a7, .ref a8, .ref a9, .ref a10, .ref a11])) p = some (.lst [.ref a0, .ref a1, .ref a2, .ref a3, .ref a4, .ref a5, .ref a6, .ref a7, .ref a8, .ref a9, .ref a10, .ref a11]) := upd_same
    refine q p _ [a0, a1, a2, a3, a4, a5, a6, a7, a8, a9, a10, a11] (x7.trans v7) ep rfl fun i a h => ?_
    have hi12 : i < 12 := (List.getElem?_eq_some_iff.mp h).1
    have hh : i = 0 ∨ i = 1 ∨ i = 2 ∨ i = 3 ∨ i = 4 ∨ i = 5 ∨ i = 6 ∨ i = 7 ∨ i = 8 ∨ i = 9 ∨ i = 10 ∨ i = 11 := by omega
    rcases hh with rfl | rfl | rfl | rfl | rfl | rfl | rfl | rfl | rfl | rfl | rfl | rfl
    · cases h
      exact ⟨b0, _, _, rfl, rfl, ((s2.trans (v2.trans (s3.trans (v3.trans (s4.trans (v4.trans (s5.trans (v5.trans (s6.trans (v6.trans (s7.trans v7))))))))))) _ _ ea0), ((s1.trans (v1.trans (s2.trans (v2.trans (s3.trans (v3.trans (s4.trans (v4.trans (s5.trans (v5.trans (s6.trans (v6.trans (s7.trans v7))))))))))))) _ _ eb0)⟩
    · cases h
      have eq : Str.empty ++ "every " ++ S t.every ++ " months" = "every " ++ S t.every ++ " months" := by simp only [emp_app]
      exact ⟨b1, _, _, rfl, rfl, by rw [← eq]; exact ((s2.trans (v2.trans (s3.trans (v3.trans (s4.trans (v4.trans (s5.trans (v5.trans (s6.trans (v6.trans (s7.trans v7))))))))))) _ _ ea1), ((s2.trans (v2.trans (s3.trans (v3.trans (s4.trans (v4.trans (s5.trans (v5.trans (s6.trans (v6.trans (s7.trans v7))))))))))) _ _ eb1)⟩
    · cases h
      exact ⟨b2, _, _, rfl, rfl, ((s3.trans (v3.trans (s4.trans (v4.trans (s5.trans (v5.trans (s6.trans (v6.trans (s7.trans v7))))))))) _ _ ea2), ((s2.trans (v2.trans (s3.trans (v3.trans (s4.trans (v4.trans (s5.trans (v5.trans (s6.trans (v6.trans (s7.trans v7))))))))))) _ _ eb2)⟩
    · cases h
      exact ⟨b3, _, _, rfl, rfl, ((s4.trans (v4.trans (s5.trans (v5.trans (s6.trans (v6.trans (s7.trans v7))))))) _ _ ea3), ((s3.trans (v3.trans (s4.trans (v4.trans (s5.trans (v5.trans (s6.trans (v6.trans (s7.trans v7))))))))) _ _ eb3)⟩
    · cases h
      have eq : Str.empty ++ "days " ++ t.conv = "days " ++ t.conv := by simp only [emp_app]
      exact ⟨b4, _, _, rfl, rfl, by rw [← eq]; exact ((s4.trans (v4.trans (s5.trans (v5.trans (s6.trans (v6.trans (s7.trans v7))))))) _ _ ea4), ((s4.trans (v4.trans (s5.trans (v5.trans (s6.trans (v6.trans (s7.trans v7))))))) _ _ eb4)⟩
    · cases h
      have eq : Str.empty ++ "round " ++ t.mode = "round " ++ t.mode := by simp only [emp_app]
      exact ⟨b5, _, _, rfl, rfl, by rw [← eq]; exact ((s4.trans (v4.trans (s5.trans (v5.trans (s6.trans (v6.trans (s7.trans v7))))))) _ _ ea5), ((s4.trans (v4.trans (s5.trans (v5.trans (s6.trans (v6.trans (s7.trans v7))))))) _ _ eb5)⟩
    · cases h
      exact ⟨b6, _, _, rfl, rfl, ((s5.trans (v5.trans (s6.trans (v6.trans (s7.trans v7))))) _ _ ea6), ((s4.trans (v4.trans (s5.trans (v5.trans (s6.trans (v6.trans (s7.trans v7))))))) _ _ eb6)⟩
    · cases h
      have eq : Str.empty ++ "fees period " ++ amt t.pfee = "fees period " ++ amt t.pfee := by simp only [emp_app]
      exact ⟨b7, _, _, rfl, rfl, by rw [← eq]; exact ((s6.trans (v6.trans (s7.trans v7))) _ _ ea7), ((s5.trans (v5.trans (s6.trans (v6.trans (s7.trans v7))))) _ _ eb7)⟩
    · cases h
      have eq : Str.empty ++ "fees late " ++ amt t.lfee ++ " after " ++ S t.grace ++ " days" = "fees late " ++ amt t.lfee ++ " after " ++ S t.grace ++ " days" := by simp only [emp_app]
      exact ⟨b8, _, _, rfl, rfl, by rw [← eq]; exact ((s7.trans v7) _ _ ea8), ((s6.trans (v6.trans (s7.trans v7))) _ _ eb8)⟩
    · cases h
      have eq : Str.empty ++ "fees early " ++ S t.epart ++ " within " ++ S t.emonths ++ " months" = "fees early " ++ S t.epart ++ " within " ++ S t.emonths ++ " months" := by simp only [emp_app]
      exact ⟨b9, _, _, rfl, rfl, by rw [← eq]; exact ((s7.trans v7) _ _ ea9), ((s7.trans v7) _ _ eb9)⟩
    · cases h
      have eq : Str.empty ++ "use " ++ Txt.join ", " os = "use " ++ Txt.join ", " os := by simp only [emp_app]
      exact ⟨b10, _, _, rfl, rfl, by rw [← eq]; exact ((s7.trans v7) _ _ ea10), ((s7.trans v7) _ _ eb10)⟩
    · cases h
      have eq : Str.empty ++ "penalty " ++ pct t.pen = "penalty " ++ pct t.pen := by simp only [emp_app]
      exact ⟨b11, _, _, rfl, rfl, by rw [← eq]; exact ea11, ((s7.trans v7) _ _ eb11)⟩
theorem clause_lines_go (T : Txt w K mg) {H : Hp} {Q : VK} {E : XK} {c : Addr} {t : TM} {os : List Str} (h : TermsAt K T.c_Terms H c t os) (q : ∀ p H' ps, Same H H' → H' p = some (.lst (ps.map V.ref)) → ps.length = 12 → ClsAt H' ps t os → Q (.ref p) H') : sp_clause_lines T [.ref c] H Q E := by
  unfold sp_clause_lines
  exact ⟨c, t, os, rfl, h, q⟩

/-! ### show_product -/
theorem short_w {x : Str} {l : List Str} (h : x ∈ l) (k : l.all (fun z => decide (z.length ≤ 20)) = true) : LL 20 x := ⟨of_decide_eq_true (List.all_eq_true.mp k x h)⟩
theorem opt_ll {z : Str} (h : (z == "" || nameB z) = true) : LL 20 z := ⟨Nat.le_trans (opt_len h) (by decide)⟩
theorem lns_len {t : TM} {os : List Str} (g : GoodT t) (go : os.Perm usualO) : ∀ l ∈ lnsP t os, LL 4000 l := by
  have g1 := g.count
  have g2 := every_bd g.every
  have g3 := g.due
  have g4 := g.free
  have g5 := g.ofee
  have g6 := g.opart
  have g7 := g.rate
  have g8 := g.lowest
  have g9 := g.highest
  have g10 := g.pfee
  have g11 := g.lfee
  have g12 := g.grace
  have g13 := g.epart
  have g14 := g.emonths
  have g15 := g.pen
  have w1 := short_w g.rule (by decide +kernel)
  have w2 := short_w g.conv (by decide +kernel)
  have w3 := short_w g.mode (by decide +kernel)
  have w4 := short_w g.scheme (by decide +kernel)
  have w5 := opt_ll g.cal
  have w6 := opt_ll g.index
  have l3' : os.length = 3 := go.length_eq
  have w7 : LL 100 (Txt.join ", " os) := by
    obtain ⟨y1, y2, y3, rfl⟩ : ∃ a b c, os = [a, b, c] := by
      match os, l3' with
      | [a, b, c], _ => exact ⟨a, b, c, rfl⟩
    have k1 := short_w (go.mem_iff.mp (show y1 ∈ [y1, y2, y3] by simp)) (by decide +kernel)
    have k2 := short_w (go.mem_iff.mp (show y2 ∈ [y1, y2, y3] by simp)) (by decide +kernel)
    have k3 := short_w (go.mem_iff.mp (show y3 ∈ [y1, y2, y3] by simp)) (by decide +kernel)
    rw [join3]
    exact (k1.app ((LL.lit (n := 2) (by decide +kernel)).app (k2.app ((LL.lit (n := 2) (by decide +kernel)).app k3)))).mono (by decide)
  intro l hl
  unfold lnsP payL dueL rateL openL S at hl
  simp only [List.mem_cons, List.not_mem_nil, or_false] at hl
  rcases hl with rfl | rfl | rfl | rfl | rfl | rfl | rfl | rfl | rfl | rfl | rfl | rfl
  · split
    · exact LL.mono (by walk_at "ll") (by decide)
    · exact LL.mono (by walk_at "ll") (by decide)
  · exact LL.mono (by walk_at "ll") (by decide)
  · split
    · exact LL.mono (by walk_at "ll") (by decide)
    · exact LL.mono (by walk_at "ll") (by decide)
  · split
    · exact LL.mono (by walk_at "ll") (by decide)
    · split
      · exact LL.mono (by walk_at "ll") (by decide)
      · exact LL.mono (by walk_at "ll") (by decide)
  · exact LL.mono (by walk_at "ll") (by decide)
  · exact LL.mono (by walk_at "ll") (by decide)
  · split
    · exact LL.mono (by walk_at "ll") (by decide)
    · exact LL.mono (by walk_at "ll") (by decide)
  · exact LL.mono (by walk_at "ll") (by decide)
  · exact LL.mono (by walk_at "ll") (by decide)
  · exact LL.mono (by walk_at "ll") (by decide)
  · exact LL.mono (by walk_at "ll") (by decide)
  · exact LL.mono (by walk_at "ll") (by decide)
/-- the lines up to the i-th -/
def linesI (t : TM) (os : List Str) (i : Nat) : List Str := ("product " ++ t.name ++ " {") :: ((nmsP.zip (lnsP t os)).take i).filterMap (someL t os)
theorem linesI_next {t : TM} {os : List Str} {i : Nat} {ns : List Str} {l : Str} (h1 : nmsP[i]? = some ns) (h2 : (lnsP t os)[i]? = some l) : linesI t os (i + 1) = linesI t os i ++ (if ns.any (toldB t os) = true then ["  " ++ l ++ ";"] else []) := by
  have h : (nmsP.zip (lnsP t os))[i]? = some (ns, l) := by rw [List.getElem?_zip_eq_some]; exact ⟨h1, h2⟩
  unfold linesI
  rw [List.take_add_one, h, Option.toList_some, List.filterMap_append, List.cons_append]
  congr 2
  show (List.filterMap (someL t os) [(ns, l)]) = _
  rw [List.filterMap_cons]
  by_cases c : ns.any (toldB t os) = true
  · rw [if_pos c, someL_pos c]
    rfl
  · rw [if_neg c, someL_neg c]
    rfl
theorem linesI_len {t : TM} {os : List Str} (g : GoodT t) (go : os.Perm usualO) {i : Nat} : (linesI t os i).length ≤ 13 ∧ ∀ l ∈ linesI t os i, l.length ≤ 4010 := by
  refine ⟨?_, fun l hl => ?_⟩
  · unfold linesI
    rw [List.length_cons]
    have h1 := List.length_filterMap_le (someL t os) ((nmsP.zip (lnsP t os)).take i)
    have h2 : ((nmsP.zip (lnsP t os)).take i).length ≤ 12 := by
      rw [List.length_take]
      exact Nat.min_le_right _ _
    omega
  · unfold linesI at hl
    rcases List.mem_cons.mp hl with rfl | hl
    · have k : LL 12 t.name := ⟨(nameB_iff.mp g.name).2.1⟩
      exact (LL.mono (((LL.lit (n := 60) (by decide +kernel)).app k).app (LL.lit (n := 60) (by decide +kernel))) (by decide) : LL 4010 _).le
    · obtain ⟨x, hx, he⟩ := List.mem_filterMap.mp hl
      have hx2 := List.mem_of_mem_take hx
      have hm : x.2 ∈ lnsP t os := (List.of_mem_zip (show (x.1, x.2) ∈ _ from hx2)).2
      have k := lns_len g go _ hm
      unfold someL at he
      split at he
      · cases he
        exact (LL.mono (((LL.lit (n := 3) (by decide +kernel)).app k).app (LL.lit (n := 3) (by decide +kernel))) (by decide) : LL 4010 _).le
      · cases he
theorem sum_len_le {b : Nat} : ∀ {l : List Str}, (∀ x ∈ l, x.length ≤ b) → (l.map (·.length)).sum ≤ l.length * b
  | [], _ => by simp
  | x :: l, h => by
    have h1 := h x List.mem_cons_self
    have h2 := sum_len_le (l := l) fun y hy => h y (List.mem_cons_of_mem _ hy)
    rw [List.map_cons, List.sum_cons, List.length_cons, Nat.add_mul]
    omega
def flagV (t : TM) (os : List Str) : V → V
  | .str z => .bl (toldB t os z)
  | v => v
@[irreducible] def sp_show_product (T : Txt w K mg) : Sp := fun vs H Q E => ∃ (c : Addr) (t : TM) (os : List Str), vs = [.ref c] ∧ TermsAt K T.c_Terms H c t os ∧ os.all okS = true ∧ (∀ H', Same H H' → Q (.str (prodP t os)) H')
theorem ok_show_product (T : Txt w K mg) : FnOk P w K mg base (L2.CX P w) 10 T.a_show_product T.fd_show_product ["terms"] (sp_show_product T) := by
  refine T.F_show_product.ok sc_show_product (fun vs H Q E h => ?_) (fun cdv A outer s H vs Q E hr h => ?_)
  · unfold sp_show_product at h
    obtain ⟨c, t, os, rfl, _⟩ := h
    rfl
  · unfold sp_show_product at h
    obtain ⟨c, t, os, rfl, St, fo, q⟩ := h
    refine ⟨_, (pss_cons (ps_set (i := 1) sc_show_product.nd rfl (Or.inr rfl) (pe_callS (ok_told_fields T) (hr.mono (by decide)) rfl T.m_told_fields T.F_told_fields.kp T.b_told_fields (fun σ => passAt (takes_of rfl rfl rfl rfl) σ) (pa_cons (pv 0) pa_nil)))
    (pss_cons (ps_set (i := 2) sc_show_product.nd rfl (Or.inl rfl) (pe_lst (pa_cons (pe_joined (.cons pe_str (.cons (pe_fmt (pe_fld (pv 0) rfl)) (.cons pe_str .nil)))) pa_nil)))
    (pss_cons (ps_for (passes_of rfl) rfl (pi_list (pe_callS (ok_clause_lines T) (hr.mono (by decide)) rfl T.m_clause_lines T.F_clause_lines.kp T.b_clause_lines (fun σ => passAt (takes_of rfl rfl rfl rfl) σ) (pa_cons (pv 0) pa_nil))) (pg_tup rfl (pgs_cons (pg_name (i := 3) sc_show_product.nd rfl (Or.inl rfl)) (pgs_cons (pg_name (i := 4) sc_show_product.nd rfl (Or.inl rfl)) pgs_nil)))
      (pss_one (ps_cut (ps_if (pt_val (pe_callB (call_any rfl) rfl T.z_any bt_any (pa_cons (pe_lc (own := [("name", 5)]) (tt := tYes) rfl sc_show_product.nd (pi_tup (pv 3)) (blkOk_by (own := [("name", 5)]) (N := ["terms", "told", "lines", "names", "line", "name"]) (sc := defScope s_show_product) (by decide +kernel)) (fun _ _ _ _ _ => (pg_name (i := 5) sc_show_product.nd rfl (Or.inl rfl))) (fun _ _ _ _ _ => pts_nil) (fun _ _ _ _ _ => (pe_cmp (pc_din (hu_of hr) (pv 5) (pv 1)) rfl))) pa_nil))) (pss_one (ps_expr (pe_bm PySem.F.plainAttrs_list PySem.F.slot_list_append PySem.F.type_list_append mt_app (pv 2) (pa_cons (pe_joined (.cons pe_str (.cons (pe_fmt (pv 4)) (.cons pe_str .nil)))) pa_nil)))) pss_nil))))
    (pss_cons (ps_expr (pe_bm PySem.F.plainAttrs_list PySem.F.slot_list_append PySem.F.type_list_append mt_app (pv 2) (pa_cons pe_str pa_nil)))
    (pss_one (ps_ret (pe_m1 PySem.F.slot_str_join PySem.F.type_str_join mt_joinS pe_str (pv 2)))))))), ?_⟩
    have g := (good_of St.good).1
    have go := (good_of St.good).2
    obtain ⟨dx, hi⟩ := St.ins
    have nml : LL 12 t.name := ⟨(nameB_iff.mp g.name).2.1⟩
    walk_at "rd"
    refine told_fields_go T St fo fun pd H1 kvs s1 e1 hk => ?_
    have St1 := St.same s1
    have hi1 := s1 _ _ hi
    walk_at "rd"
    rename_i pl npl
    have s1l := same_new (o := .lst [.str (Str.empty ++ "product " ++ t.name ++ " {")]) (Same.refl H1) npl
    refine clause_lines_go T (St1.same s1l) fun pc H2 ps s2 e2 l2 cl => ?_
    have el2 : H2 pl = some (.lst ((linesI t os 0).map V.str)) := by
      have := s2 _ _ (upd_same (H := H1) (a := pl) (o := .lst [.str (Str.empty ++ "product " ++ t.name ++ " {")]))
      rw [this, emp_app]
      rfl
    have Lc2 := l_of (K := K) e2
    have s12 : Same H1 H2 := s1l.trans s2
    walk_at "rd"
    refine ⟨⟨_, Lc2⟩, for_list (xs := ps.map V.ref) (fun i σ H' => Wall (∃ u3 u4 u5, σ = [some (.ref c), some (.ref pd), some (.ref pl), u3, u4, u5] ∧ Same H1 H' ∧ (∀ b o, b ≠ pl → H2 b = some o → H' b = some o) ∧ H' pl = some (.lst ((linesI t os i).map V.str)))) (wall ⟨_, _, _, rfl, s12, fun _ _ _ e => e, el2⟩) ?_ ?_ ?_⟩
    · rintro i σ H' hi' ⟨w⟩
      obtain ⟨u3, u4, u5, rfl, s, fr, ek⟩ := w trivial
      exact l_of (fr _ _ (fun z => by
        rw [z, el2] at e2
        have := congrArg (fun o : Option HO => match o with | some (.lst (x :: _)) => (match x with | .str _ => true | _ => false) | _ => false) e2
        cases ps with
        | nil => cases l2
        | cons a r => cases this) e2)
    · rintro i x σ H' hx ⟨w⟩
      obtain ⟨u3, u4, u5, rfl, s, fr, ek⟩ := w trivial
      clear w
      rw [List.getElem?_map] at hx
      obtain ⟨a, ha, rfl⟩ := Option.map_eq_some_iff.mp hx
      obtain ⟨b, ns, l, hn, hl, ea, eb⟩ := cl i a ha
      have nf : ∀ {x : Addr} {o : List V}, H2 x = some (.tup o) → x ≠ pl := fun {x o} e z => by rw [z, el2] at e; cases e
      have ta := t_of (K := K) (fr _ _ (nf ea) ea)
      have tb := t_of (K := K) (fr _ _ (nf eb) eb)
      have ekd := s _ _ e1
      have nl := linesI_next (t := t) (os := os) hn hl
      have lls := lns_len g go l (List.mem_of_getElem? hl)
      have hlen := linesI_len g go (i := i)
      walk_at "rd"
      refine ⟨fun σ' H'' => Wall (∃ u3 u4 u5, σ' = [some (.ref c), some (.ref pd), some (.ref pl), u3, u4, u5] ∧ Same H1 H'' ∧ (∀ b o, b ≠ pl → H2 b = some o → H'' b = some o) ∧ H'' pl = some (.lst ((linesI t os (i + 1)).map V.str))), ?_, fun _ _ h => h⟩
      walk_at "rd"
      have hns : ns.length ≤ 3 := by
        have : ∀ x ∈ nmsP, x.length ≤ 3 := by decide
        exact this ns (List.mem_of_getElem? hn)
      refine ⟨⟨_, tb⟩, fun D nD => lc_mpT (xs := ns.map V.str) (flagV t os) nD tb (by rw [List.length_map, sizeLine_eq]; omega) (fun j x H5 N acc hx s5 e5 hl5 k => ?_) fun H5 s5 e5 => ?_⟩
      · rw [List.getElem?_map] at hx
        obtain ⟨z, hz, rfl⟩ := Option.map_eq_some_iff.mp hx
        have ekd5 := s5 _ _ ekd
        walk_at "rd"
        refine dinS ekd5 rfl ?_
        walk_at "rd"
        refine ⟨acc, e5, hl5, k _ (same_set s5 nD) ?_⟩
        rw [upd_same]
        show some (HO.lst (acc ++ [V.bl (valV kvs (Sum.inr z)).isSome])) = _
        rw [hk z]
        rfl
      have e5b : H5 D = some (.lst ((ns.map (toldB t os)).map V.bl)) := by
        rw [e5, List.map_map, List.map_map]
        rfl
      have ek5 := s5 _ _ ek
      have fr5 : ∀ b o, b ≠ pl → H2 b = some o → H5 b = some o := fun b o hb e => s5 _ _ (fr b o hb e)
      walk_at "rd"
      refine any_go (l_of e5b) ?_
      have ea2 : (ns.map (toldB t os)).any id = ns.any (toldB t os) := by rw [List.any_map]; rfl
      rw [ea2]
      walk_at "rd"
      refine iteB (fun d => ?_) (fun d => ?_)
      · rw [nl, if_pos d]
        have hll : ((linesI t os i).map V.str).length < sizeLine := by
          have := hlen.1
          rw [List.length_map, sizeLine_eq]
          omega
        walk_at "rd"
        refine wall ⟨_, _, _, rfl, same_set (s.trans s5) npl, fun b o hb e => by rw [upd_ne hb]; exact fr5 b o hb e, ?_⟩
        rw [upd_same, List.map_append]
        simp only [emp_app]
        rfl
      · rw [nl, if_neg (by rw [d]; exact Bool.false_ne_true), List.append_nil]
        walk_at "rd"
        exact wall ⟨_, _, _, rfl, s.trans s5, fr5, ek5⟩
    · rintro σ H' ⟨w⟩
      obtain ⟨u3, u4, u5, rfl, s, fr, ek⟩ := w trivial
      have hlen := linesI_len g go (i := (ps.map V.ref).length)
      have hll : ((linesI t os (ps.map V.ref).length).map V.str).length < sizeLine := by
        have := hlen.1
        rw [List.length_map, sizeLine_eq]
        omega
      walk_at "rd"
      have el : linesI t os (ps.map V.ref).length ++ (["}"] : List Str) = allLP t os := by
        rw [List.length_map, l2]
        rfl
      have ey : (upd H' pl (.lst ((linesI t os (ps.map V.ref).length).map V.str ++ [.str "}"]))) pl = some (.lst ((allLP t os).map V.str)) := by
        rw [upd_same, ← el, List.map_append]
        rfl
      refine ⟨⟨_, rfl⟩, ?_⟩
      walk_at "rd"
      refine joinS_go (l_of ey) ?_ ?_
      · rw [← el, List.map_append, List.sum_append, List.length_append]
        have h1 := sum_len_le hlen.2
        have h2 := hlen.1
        have h3 : ("}" : Str).length = 1 := by decide +kernel
        have h4 : ("\n" : Str).length = 1 := by decide +kernel
        simp only [List.map_cons, List.map_nil, List.sum_cons, List.sum_nil, List.length_cons, List.length_nil, h3, h4]
        omega
      · have q1 := q _ (s1.trans (same_set (o := .lst ((linesI t os (ps.map V.ref).length).map V.str ++ [.str "}"])) s npl))
        unfold prodP at q1
        exact q1
theorem show_product_go (T : Txt w K mg) {H : Hp} {Q : VK} {E : XK} {c : Addr} {t : TM} {os : List Str} (h : TermsAt K T.c_Terms H c t os) (fo : os.all okS = true) (q : ∀ H', Same H H' → Q (.str (prodP t os)) H') : sp_show_product T [.ref c] H Q E := by
  unfold sp_show_product
  exact ⟨c, t, os, rfl, h, fo, q⟩

/-! ### show_products -/
section
variable {K : PySem.W.Frag} {a D : Addr} {g : TG} {tt : TT} {te : TE} {vs : List Nat} {σ : L2.St} {H1 : Hp} {Qd : Hp → Prop}
theorem lc_mpX {α : Type} {ys : List V} (val : α → V) (R : Nat → α → Hp → Prop) (hD : H1 D = none) (hl : SqL K H1 a ys) (hn : ys.length < sizeLine)
    (mono : ∀ i x H H' acc, H D = some (.lst acc) → (∀ b o, b ≠ D → H b = some o → H' b = some o) → R i x H → R i x H')
    (hs : ∀ (i : Nat) (y : V) (H : Hp) (N : Hp → Prop) (acc : List V), ys[i]? = some y → Same H1 H → H D = some (.lst acc) → acc.length < sizeLine → (∀ x H4, Same H H4 → R i x H4 → N (upd H4 D (.lst (acc ++ [val x])))) →
      g (y) (wipe σ vs) H fun σ2 H2 => wipe σ2 vs = wipe σ vs ∧ tt σ2 H2 fun b H3 => if b = true then te σ2 H3 fun y H4 => ∃ acc, H4 D = some (.lst acc) ∧ acc.length < sizeLine ∧ N (upd H4 D (.lst (acc ++ [y]))) else N H3)
    (hd : ∀ (xs : List α) (H' : Hp), Same H1 H' → H' D = some (.lst (xs.map val)) → xs.length = ys.length → (∀ j x, xs[j]? = some x → R j x H') → Qd H') :
    ∃ W : Nat → Nat → Hp → Prop, (∃ m, W 0 m (upd H1 D (.lst []))) ∧ ∀ i m H, W i m H →
      ((Itl K a).stop i H ∧ Qd H) ∨ ((Itl K a).go i H ∧ ∃ Nx : Hp → Prop, (∀ H', Nx H' → ∃ m', m' < m ∧ W (i + 1) m' H') ∧ ∀ x H', (Itl K a).yld i H x H' → g x (wipe σ vs) H' fun σ2 H2 => wipe σ2 vs = wipe σ vs ∧ tt σ2 H2 fun b H3 =>
        if b = true then te σ2 H3 fun y H4 => ∃ acc, H4 D = some (.lst acc) ∧ acc.length < sizeLine ∧ Nx (upd H4 D (.lst (acc ++ [y]))) else Nx H3) := by
  refine lc_list (xs := ys) (fun i H => Same H1 H ∧ ∃ xs : List α, H D = some (.lst (xs.map val)) ∧ xs.length = i ∧ ∀ j x, xs[j]? = some x → R j x H) ⟨same_new (Same.refl _) hD, [], upd_same, rfl, fun j x h => by cases h⟩ (fun i H _ e => same_lst e.1 hl) ?_ ?_
  · rintro i y H hx ⟨s, xs, e, l, r⟩
    refine hs i y _ _ _ hx s e ?_ fun x H4 s4 r4 => ⟨same_set (s.trans s4) hD, xs ++ [x], ?_, ?_, fun j z hz => ?_⟩
    · rw [List.length_map, l]
      have := (List.getElem?_eq_some_iff.mp hx).1
      omega
    · rw [upd_same, List.map_append]
      rfl
    · rw [List.length_append, l]
      rfl
    · refine mono j z H4 _ _ (s4 _ _ e) (fun b o hb e => by rw [upd_ne hb]; exact e) ?_
      by_cases c : j < xs.length
      · rw [List.getElem?_append_left c] at hz
        exact mono j z H H4 _ e (fun b o _ e => s4 _ _ e) (r j z hz)
      · have hj := (List.getElem?_eq_some_iff.mp hz).1
        rw [List.length_append] at hj
        have : j = xs.length := by simp at hj; omega
        subst this
        rw [List.getElem?_append_right (Nat.le_refl _), Nat.sub_self] at hz
        cases hz
        rw [l]
        exact r4
  · rintro H ⟨s, xs, e, l, r⟩
    exact hd xs H s e l r
theorem lc_rgX {α : Type} {n : Nat} (val : α → V) (R : Nat → α → Hp → Prop) (hD : H1 D = none) (hn : n < sizeLine)
    (mono : ∀ i x H H' acc, H D = some (.lst acc) → (∀ b o, b ≠ D → H b = some o → H' b = some o) → R i x H → R i x H')
    (hs : ∀ (i : Nat) (H : Hp) (N : Hp → Prop) (acc : List V), i < n → Same H1 H → H D = some (.lst acc) → acc.length < sizeLine → (∀ x H4, Same H H4 → R i x H4 → N (upd H4 D (.lst (acc ++ [val x])))) →
      g (.int (0 + (i : Nat))) (wipe σ vs) H fun σ2 H2 => wipe σ2 vs = wipe σ vs ∧ tt σ2 H2 fun b H3 => if b = true then te σ2 H3 fun y H4 => ∃ acc, H4 D = some (.lst acc) ∧ acc.length < sizeLine ∧ N (upd H4 D (.lst (acc ++ [y]))) else N H3)
    (hd : ∀ (xs : List α) (H' : Hp), Same H1 H' → H' D = some (.lst (xs.map val)) → xs.length = n → (∀ j x, xs[j]? = some x → R j x H') → Qd H') :
    ∃ W : Nat → Nat → Hp → Prop, (∃ m, W 0 m (upd H1 D (.lst []))) ∧ ∀ i m H, W i m H →
      ((Itr 0 n).stop i H ∧ Qd H) ∨ ((Itr 0 n).go i H ∧ ∃ Nx : Hp → Prop, (∀ H', Nx H' → ∃ m', m' < m ∧ W (i + 1) m' H') ∧ ∀ x H', (Itr 0 n).yld i H x H' → g x (wipe σ vs) H' fun σ2 H2 => wipe σ2 vs = wipe σ vs ∧ tt σ2 H2 fun b H3 =>
        if b = true then te σ2 H3 fun y H4 => ∃ acc, H4 D = some (.lst acc) ∧ acc.length < sizeLine ∧ Nx (upd H4 D (.lst (acc ++ [y]))) else Nx H3) := by
  refine lc_range (fun i H => Same H1 H ∧ ∃ xs : List α, H D = some (.lst (xs.map val)) ∧ xs.length = i ∧ ∀ j x, xs[j]? = some x → R j x H) ⟨same_new (Same.refl _) hD, [], upd_same, rfl, fun j x h => by cases h⟩ ?_ ?_
  · rintro i H hi ⟨s, xs, e, l, r⟩
    refine hs i _ _ _ hi s e ?_ fun x H4 s4 r4 => ⟨same_set (s.trans s4) hD, xs ++ [x], ?_, ?_, fun j z hz => ?_⟩
    · rw [List.length_map, l]
      omega
    · rw [upd_same, List.map_append]
      rfl
    · rw [List.length_append, l]
      rfl
    · refine mono j z H4 _ _ (s4 _ _ e) (fun b o hb e => by rw [upd_ne hb]; exact e) ?_
      by_cases c : j < xs.length
      · rw [List.getElem?_append_left c] at hz
        exact mono j z H H4 _ e (fun b o _ e => s4 _ _ e) (r j z hz)
      · have hj := (List.getElem?_eq_some_iff.mp hz).1
        rw [List.length_append] at hj
        have : j = xs.length := by simp at hj; omega
        subst this
        rw [List.getElem?_append_right (Nat.le_refl _), Nat.sub_self] at hz
        cases hz
        rw [l]
        exact r4
  · rintro H ⟨s, xs, e, l, r⟩
    exact hd xs H s e l r
end

theorem join_lenA {a : Str} : ∀ ys : List Str, (Txt.join a ys).length ≤ (ys.map (·.length)).sum + ys.length * a.length
  | [] => by rw [TL.join_eq]; exact Nat.zero_le _
  | [x] => by
    rw [TL.join_eq]
    show x.length ≤ x.length + 0 + 1 * a.length
    omega
  | x :: y :: r => by
    have ih := join_lenA (a := a) (y :: r)
    rw [TL.join_eq] at ih ⊢
    show (x ++ a ++ Str.join a (y :: r)).length ≤ _
    rw [len_app, len_app, List.map_cons, List.sum_cons, List.length_cons, Nat.add_mul]
    omega
theorem prodP_len {t : TM} {os : List Str} (g : GoodT t) (go : os.Perm usualO) : (prodP t os).length ≤ 60000 := by
  unfold prodP
  refine Nat.le_trans (join_lenA _) ?_
  have e : allLP t os = linesI t os 12 ++ (["}"] : List Str) := rfl
  have hlen := linesI_len g go (i := 12)
  have h1 := sum_len_le hlen.2
  have h2 := hlen.1
  have h3 : ("}" : Str).length = 1 := by decide +kernel
  have h4 : ("\n" : Str).length = 1 := by decide +kernel
  rw [e, List.map_append, List.sum_append, List.length_append]
  simp only [List.map_cons, List.map_nil, List.sum_cons, List.sum_nil, List.length_cons, List.length_nil, h3, h4]
  omega
abbrev TX3 := Addr × TM × List Str
@[irreducible] def sp_show_products (T : Txt w K mg) : Sp := fun vs H Q E => ∃ (p : Addr) (xs : List TX3), vs = [.ref p] ∧ SqL K H p (xs.map fun x => V.ref x.1) ∧ xs.length ≤ 200 ∧ (∀ x ∈ xs, TermsAt K T.c_Terms H x.1 x.2.1 x.2.2 ∧ x.2.2.all okS = true) ∧ (∀ H', Same H H' → Q (.str (Txt.join "\n" (xs.map fun x => prodP x.2.1 x.2.2))) H')
theorem ok_show_products (T : Txt w K mg) : FnOk P w K mg base (L2.CX P w) 11 T.a_show_products T.fd_show_products ["products"] (sp_show_products T) := by
  refine T.F_show_products.ok sc_show_products (fun vs H Q E h => ?_) (fun cdv A outer s H vs Q E hr h => ?_)
  · unfold sp_show_products at h
    obtain ⟨p, xs, rfl, _⟩ := h
    rfl
  · unfold sp_show_products at h
    obtain ⟨p, xs, rfl, hL, hn, hx, q⟩ := h
    refine ⟨_, (pss_one (ps_ret (pe_m1 PySem.F.slot_str_join PySem.F.type_str_join mt_joinS pe_str (pe_lc (own := [("terms", 1)]) (tt := tYes) rfl sc_show_products.nd (pi_list (pv 0)) (blkOk_by (own := [("terms", 1)]) (N := ["products", "terms"]) (sc := defScope s_show_products) (by decide +kernel)) (fun _ _ _ _ _ => (pg_name (i := 1) sc_show_products.nd rfl (Or.inl rfl))) (fun _ _ _ _ _ => pts_nil) (fun _ _ _ _ _ => (pe_callS (ok_show_product T) (hr.mono (by decide)) rfl T.m_show_product T.F_show_product.kp T.b_show_product (fun σ => passXS σ) (pa_cons (pv 1) pa_nil))))))), ?_⟩
    refine ⟨⟨_, rfl⟩, ?_⟩
    walk_at "rd"
    refine ⟨⟨_, hL⟩, fun D nD => lc_mpX (ys := xs.map fun x : TX3 => V.ref x.1) (fun z : Str => V.str z) (fun i z _ => ∃ x, xs[i]? = some x ∧ z = prodP x.2.1 x.2.2) nD hL (by rw [List.length_map, sizeLine_eq]; omega) (fun _ _ _ _ _ _ _ h => h) (fun i y H5 N acc hy s5 e5 hl5 k => ?_) fun zs H5 s5 e5 l5 r5 => ?_⟩
    · rw [List.getElem?_map] at hy
      obtain ⟨x, hxi, rfl⟩ := Option.map_eq_some_iff.mp hy
      obtain ⟨St, fo⟩ := hx x (List.mem_of_getElem? hxi)
      walk_at "rd"
      refine show_product_go T (St.same s5) fo fun H6 s6 => ?_
      exact ⟨acc, s6 _ _ e5, hl5, k _ _ s6 ⟨x, hxi, rfl⟩⟩
    · have ez : zs = xs.map fun x => prodP x.2.1 x.2.2 := by
        refine List.ext_getElem? fun i => ?_
        rw [List.getElem?_map]
        by_cases c : i < xs.length
        · have c2 : i < zs.length := by rw [l5, List.length_map]; exact c
          obtain ⟨x, h1, h2⟩ := r5 i _ (List.getElem?_eq_getElem c2)
          rw [List.getElem?_eq_getElem c2, h1, h2]
          rfl
        · rw [List.getElem?_eq_none (by rw [l5, List.length_map]; omega), List.getElem?_eq_none (by omega)]
          rfl
      refine joinS_go (l_of e5) ?_ ?_
      · rw [ez]
        have h1 : ∀ z ∈ (xs.map fun x => prodP x.2.1 x.2.2), z.length ≤ 60000 := fun z hz => by
          obtain ⟨x, hm, rfl⟩ := List.mem_map.mp hz
          have g := good_of (hx x hm).1.good
          exact prodP_len g.1 g.2
        have h2 := sum_len_le h1
        rw [List.length_map] at h2 ⊢
        have h4 : ("\n" : Str).length = 1 := by decide +kernel
        rw [h4]
        omega
      · rw [ez]
        exact q _ s5
theorem show_products_go (T : Txt w K mg) {H : Hp} {Q : VK} {E : XK} {p : Addr} {xs : List TX3} (hL : SqL K H p (xs.map fun x => V.ref x.1)) (hn : xs.length ≤ 200) (hx : ∀ x ∈ xs, TermsAt K T.c_Terms H x.1 x.2.1 x.2.2 ∧ x.2.2.all okS = true) (q : ∀ H', Same H H' → Q (.str (Txt.join "\n" (xs.map fun x => prodP x.2.1 x.2.2))) H') : sp_show_products T [.ref p] H Q E := by
  unfold sp_show_products
  exact ⟨p, xs, rfl, hL, hn, hx, q⟩

/-! ### _law_draw -/
/-- the size of a number -/
def ab (c : Int) : Int := if c < 0 then -c else c
theorem ab_nn (c : Int) : 0 ≤ ab c := by unfold ab; split <;> omega
/-- the rest before the i-th limit -/
def dRest (c : Int) (ls : List Int) : Nat → Int
  | 0 => ab c
  | i + 1 => if 1000000000000000000 ≤ ab c ∧ ls.getD i 0 ≤ dRest c ls i then dRest c ls i / ls.getD i 0 else dRest c ls i
def dMix (c : Int) (i : Nat) : Int := ((ab c * 48271 + (0 + (i : Int) + 1) * 69621) % 2147483647 * 16807 + (0 + (i : Int) + 1) * 40692) % 2147483399
/-- the i-th number drawn -/
def dVal (c : Int) (ls : List Int) (i : Nat) : Int :=
  if 1000000000000000000 ≤ ab c ∧ ls.getD i 0 ≤ dRest c ls i then dRest c ls i % ls.getD i 0 else dMix c i % ls.getD i 0
def draw (c : Int) (ls : List Int) : List Int := (List.range ls.length).map (dVal c ls)
theorem dVal_nn (c : Int) (ls : List Int) (i : Nat) (h : 0 < ls.getD i 0) : 0 ≤ dVal c ls i ∧ dVal c ls i < ls.getD i 0 := by
  unfold dVal
  by_cases hh : 1000000000000000000 ≤ ab c ∧ ls.getD i 0 ≤ dRest c ls i
  · rw [if_pos hh]
    exact ⟨Int.emod_nonneg _ (by omega), Int.emod_lt_of_pos _ h⟩
  · rw [if_neg hh]
    exact ⟨Int.emod_nonneg _ (by omega), Int.emod_lt_of_pos _ h⟩
theorem dRest_sz {c : Int} (ls : List Int) (h : Sz 1048600 c) : ∀ i, Sz 1048600 (dRest c ls i)
  | 0 => h.absv
  | i + 1 => by
    unfold dRest
    by_cases hh : 1000000000000000000 ≤ ab c ∧ ls.getD i 0 ≤ dRest c ls i
    · rw [if_pos hh]; exact (dRest_sz ls h i).div
    · rw [if_neg hh]; exact dRest_sz ls h i
theorem dRest_nn (c : Int) (ls : List Int) (h : ∀ z ∈ ls, 0 < z) : ∀ i, 0 ≤ dRest c ls i
  | 0 => ab_nn c
  | i + 1 => by
    have ih := dRest_nn c ls h i
    unfold dRest
    by_cases hh : 1000000000000000000 ≤ ab c ∧ ls.getD i 0 ≤ dRest c ls i
    · rw [if_pos hh, List.getD_eq_getElem?_getD]
      cases e : ls[i]? with
      | none => simp
      | some z => exact Int.ediv_nonneg ih (Int.le_of_lt (h z (List.mem_of_getElem? e)))
    · rw [if_neg hh]; exact ih
@[irreducible] def sp__law_draw (K : PySem.W.Frag) : Sp := fun vs H Q _ => ∃ (c : Int) (p : Addr) (ls : List Int), vs = [.int c, .ref p] ∧ SqL K H p (ls.map V.int) ∧ Sz 1048600 c ∧ (∀ z ∈ ls, 0 < z ∧ Sz 64 z) ∧ ls.length ≤ 1000 ∧
  ∀ r H', Same H H' → H r = none → H' r = some (.lst ((draw c ls).map V.int)) → Q (.ref r) H'
theorem ok__law_draw (T : Txt w K mg) : FnOk P w K mg base (L2.CX P w) 1 T.a__law_draw T.fd__law_draw ["cell", "limits"] (sp__law_draw K) := by
  refine T.F__law_draw.ok sc__law_draw (fun vs H Q E h => ?_) (fun cdv A outer s H vs Q E hr h => ?_)
  · unfold sp__law_draw at h
    obtain ⟨c, p, ls, rfl, _⟩ := h
    rfl
  · unfold sp__law_draw at h
    obtain ⟨c, p, ls, rfl, hp, hc, hl, hn, q⟩ := h
    refine ⟨_, (pss_cons (ps_set (i := 2) sc__law_draw.nd rfl (Or.inl rfl) (pe_lst pa_nil))
    (pss_cons (ps_set (i := 3) sc__law_draw.nd rfl (Or.inl rfl) (pe_callB call_abs rfl T.z_abs bt_abs (pa_cons (pv 0) pa_nil)))
    (pss_cons (ps_set (i := 4) sc__law_draw.nd rfl (Or.inl rfl) (pe_cmpR op_ge (pv 3) pe_int (nomark _)))
    (pss_cons (ps_for (passes_of rfl) rfl (pi_range1 rfl T.z_range (pa_cons (pe_callB call_ln rfl T.z_len bt_len (pa_cons (pv 1) pa_nil)) pa_nil)) (pg_name (i := 5) sc__law_draw.nd rfl (Or.inl rfl))
      (pss_one (ps_if (PW.pt (pw_and (pt_val (pv 4)) (pw_and1 (pt_cmpR op_ge (pv 3) (pe_ix ix_list (pv 1) (pv 5) (fun _ _ => rfl)) (nomark _))))) (pss_cons (ps_expr (pe_bm PySem.F.plainAttrs_list PySem.F.slot_list_append PySem.F.type_list_append mt_app (pv 2) (pa_cons (pe_op op_mod (pe_callTy call_int1 rfl T.z_int bt_int (pa_cons (pv 3) pa_nil)) (pe_ix ix_list (pv 1) (pv 5) (fun _ _ => rfl))) pa_nil)))
        (pss_one (ps_set (i := 3) sc__law_draw.nd rfl (Or.inl rfl) (pe_op op_fdivB (pv 3) (pe_ix ix_list (pv 1) (pv 5) (fun _ _ => rfl)))))) (pss_cons (ps_set (i := 6) sc__law_draw.nd rfl (Or.inl rfl) (pe_op op_mod (pe_callTy call_int1 rfl T.z_int bt_int (pa_cons (pe_op op_add (pe_op op_mulB (pe_callB call_abs rfl T.z_abs bt_abs (pa_cons (pv 0) pa_nil)) pe_int) (pe_op op_mulB (pe_op op_add (pv 5) pe_int) pe_int)) pa_nil)) pe_int))
        (pss_cons (ps_set (i := 6) sc__law_draw.nd rfl (Or.inl rfl) (pe_op op_mod (pe_callTy call_int1 rfl T.z_int bt_int (pa_cons (pe_op op_add (pe_op op_mulB (pv 6) pe_int) (pe_op op_mulB (pe_op op_add (pv 5) pe_int) pe_int)) pa_nil)) pe_int))
        (pss_one (ps_expr (pe_bm PySem.F.plainAttrs_list PySem.F.slot_list_append PySem.F.type_list_append mt_app (pv 2) (pa_cons (pe_op op_mod (pe_callTy call_int1 rfl T.z_int bt_int (pa_cons (pv 6) pa_nil)) (pe_ix ix_list (pv 1) (pv 5) (fun _ _ => rfl))) pa_nil)))))))))
    (pss_one (ps_ret (pv 2))))))), ?_⟩
    walk_at "rd"
    rename_i r nr
    rw [map_len]
    have hpos : ∀ i, i < ls.length → 0 < ls.getD i 0 ∧ Sz 64 (ls.getD i 0) := fun i hi => by
      rw [List.getD_eq_getElem?_getD, List.getElem?_eq_getElem hi]
      exact hl _ (List.getElem_mem hi)
    refine ⟨by omega, by omega, for_range (n := ls.length) (fun i σ H' => ∃ k m : Option V, σ = [some (.int c), some (.ref p), some (.ref r), some (.int (dRest c ls i)), some (.bl (decide (1000000000000000000 ≤ ab c))), k, m] ∧ Same H H' ∧ H' r = some (.lst (((List.range i).map (dVal c ls)).map V.int)))
      ⟨none, none, rfl, same_new (Same.refl H) nr, upd_same⟩ ?_ ?_⟩
    · rintro i σ H' hi ⟨k, m, rfl, s1, e1⟩
      have hp' := same_lst s1 hp
      have hx := hpos i hi
      have hle : i < 1000 := by omega
      have hzr := dRest_sz ls hc i
      have hab : Sz 1048600 (if c < 0 then -c else c) := hc.absv
      have hmi : Sz 64 (dMix c i) := ⟨by unfold dMix; omega⟩
      walk_at "rd"
      have hlen : (((List.range i).map (dVal c ls)).map V.int).length < sizeLine := by
        rw [List.length_map, List.length_map, List.length_range, sizeLine_eq]
        omega
      have hi62 : Sz 12 (0 + (i : Int)) := ⟨by omega⟩
      have fin : ∀ (y ρ : Int) (k' m' : Option V), dVal c ls i = y → dRest c ls (i + 1) = ρ → ∃ k'' m'' : Option V, [some (V.int c), some (.ref p), some (.ref r), some (.int ρ), some (.bl (decide (1000000000000000000 ≤ ab c))), k', m'] = [some (.int c), some (.ref p), some (.ref r), some (.int (dRest c ls (i + 1))), some (.bl (decide (1000000000000000000 ≤ ab c))), k'', m''] ∧ Same H (upd H' r (.lst (((List.range i).map (dVal c ls)).map V.int ++ [.int y]))) ∧ upd H' r (.lst (((List.range i).map (dVal c ls)).map V.int ++ [.int y])) r = some (.lst (((List.range (i + 1)).map (dVal c ls)).map V.int)) := fun y ρ k' m' e1 e2 =>
        ⟨k', m', by rw [e2], same_set s1 nr, by rw [upd_same, range_snoc e1]⟩
      have hix : atI (ls.map V.int) (0 + ((i : Nat) : Int)) = some (V.int (ls.getD i 0)) := atI_map hi
      have hx1 := hx.1
      have hx2 := hx.2
      refine iteD (fun hg => ?_) (fun hg => ?_)
      · walk_at "rd"
        refine iteD (fun hge => ?_) (fun hge => ?_)
        · have a1 : dVal c ls i = dRest c ls i % ls.getD i 0 := if_pos ⟨hg, hge⟩
          have a2 : dRest c ls (i + 1) = dRest c ls i / ls.getD i 0 := if_pos ⟨hg, hge⟩
          have cd := CD.of (i := dRest c ls i) hx.1 hx.2
          have hp'' := same_lst (same_set (o := .lst (((List.range i).map (dVal c ls)).map V.int ++ [.int (dRest c ls i % ls.getD i 0)])) s1 nr) hp
          walk_at "rd"
          exact fin _ _ _ _ a1 a2
        · have a1 : dVal c ls i = dMix c i % ls.getD i 0 := if_neg fun z => hge z.2
          have a2 : dRest c ls (i + 1) = dRest c ls i := if_neg fun z => hge z.2
          walk_at "rd"
          exact fin _ _ _ _ a1 a2
      · have a1 : dVal c ls i = dMix c i % ls.getD i 0 := if_neg fun z => hg z.1
        have a2 : dRest c ls (i + 1) = dRest c ls i := if_neg fun z => hg z.1
        walk_at "rd"
        exact fin _ _ _ _ a1 a2
    · rintro σ H' ⟨k, m, rfl, s1, e1⟩
      walk_at "rd"
      exact q r H' s1 nr e1
theorem draw_go2 {H : Hp} {Q : VK} {E : XK} {c : Int} {p : Addr} {ls : List Int} (hp : SqL K H p (ls.map V.int)) (hc : Sz 1048600 c) (hl : ∀ z ∈ ls, 0 < z ∧ Sz 64 z) (hn : ls.length ≤ 1000)
    (q : ∀ r H', Same H H' → H r = none → H' r = some (.lst ((draw c ls).map V.int)) → Q (.ref r) H') : sp__law_draw K [.int c, .ref p] H Q E := by
  unfold sp__law_draw
  exact ⟨c, p, ls, rfl, hp, hc, hl, hn, q⟩
theorem draw_go {H : Hp} {Q : VK} {E : XK} {c : Int} {p : Addr} {ls : List Int} (hp : SqL K H p (ls.map V.int)) (hc : Sz 1048576 c) (hl : ∀ z ∈ ls, 0 < z ∧ Sz 64 z) (hn : ls.length ≤ 1000)
    (q : ∀ r H', Same H H' → H r = none → H' r = some (.lst ((draw c ls).map V.int)) → Q (.ref r) H') : sp__law_draw K [.int c, .ref p] H Q E := draw_go2 hp (hc.mono (by decide)) hl hn q
theorem draw_rep {c v : Int} (n : Nat) (hv : 0 < v) : (draw c (List.replicate n v)).length = n ∧ ∀ z ∈ draw c (List.replicate n v), 0 ≤ z ∧ z < v := by
  unfold draw
  refine ⟨by rw [List.length_map, List.length_range, List.length_replicate], fun z hz => ?_⟩
  obtain ⟨i, hi, rfl⟩ := List.mem_map.mp hz
  rw [List.mem_range, List.length_replicate] at hi
  have e : (List.replicate n v).getD i 0 = v := by
    rw [List.getD_eq_getElem?_getD, List.getElem?_replicate, if_pos hi]
    rfl
  have h2 := dVal_nn c (List.replicate n v) i (by rw [e]; exact hv)
  rw [e] at h2
  exact h2
/-- n numbers below v -/
theorem draw_rep_go2 {H : Hp} {Q : VK} {E : XK} {c v : Int} {n : Nat} {p : Addr} (hp : H p = some (.lst ((List.range n).map fun _ => .int v))) (hc : Sz 1048600 c) (hv : 0 < v) (hv2 : v < 18446744073709551616) (hn : n ≤ 1000)
    (q : ∀ (r : Addr) (ds : List Int) (H' : Hp), Same H H' → H r = none → H' r = some (.lst (ds.map V.int)) → ds.length = n → (∀ z ∈ ds, 0 ≤ z ∧ z < v) → Q (.ref r) H') : sp__law_draw K [.int c, .ref p] H Q E := by
  rw [range_rep] at hp
  have := draw_rep (c := c) n hv
  refine draw_go2 (l_of hp) hc (fun z hz => ?_) (by rw [List.length_replicate]; exact hn) fun r H' s hr e => q r _ H' s hr e this.1 this.2
  rw [List.mem_replicate] at hz
  rw [hz.2]
  exact ⟨hv, ⟨by omega⟩⟩
theorem draw_rep_go {H : Hp} {Q : VK} {E : XK} {c v : Int} {n : Nat} {p : Addr} (hp : H p = some (.lst ((List.range n).map fun _ => .int v))) (hc : Sz 1048576 c) (hv : 0 < v) (hv2 : v < 18446744073709551616) (hn : n ≤ 1000)
    (q : ∀ (r : Addr) (ds : List Int) (H' : Hp), Same H H' → H r = none → H' r = some (.lst (ds.map V.int)) → ds.length = n → (∀ z ∈ ds, 0 ≤ z ∧ z < v) → Q (.ref r) H') : sp__law_draw K [.int c, .ref p] H Q E := draw_rep_go2 hp (hc.mono (by decide)) hv hv2 hn q
theorem lims_ok {ls : List Int} (h : ls.all (fun z => decide (0 < z) && decide (z < 18446744073709551616)) = true) : ∀ z ∈ ls, 0 < z ∧ Sz 64 z := fun z hz => by
  have h1 := Bool.and_eq_true_iff.mp (List.all_eq_true.mp h z hz)
  have h2 := of_decide_eq_true h1.1
  have h3 := of_decide_eq_true h1.2
  exact ⟨h2, ⟨by omega⟩⟩
/-- each below its limit -/
def WB : List Int → List Int → Prop
  | ds, [] => ds = []
  | ds, l :: ls => ∃ z r, ds = z :: r ∧ 0 ≤ z ∧ z < l ∧ WB r ls
theorem wb_of : ∀ {ls ds : List Int}, ds.length = ls.length → (∀ i, i < ls.length → 0 ≤ ds.getD i 0 ∧ ds.getD i 0 < ls.getD i 0) → WB ds ls
  | [], ds, h, _ => List.length_eq_zero_iff.mp h
  | l :: ls, [], h, _ => by cases h
  | l :: ls, z :: r, h, b => by
    have b0 := b 0 (Nat.succ_pos _)
    exact ⟨z, r, rfl, b0.1, b0.2, wb_of (by simpa using h) fun i hi => b (i + 1) (Nat.succ_lt_succ hi)⟩
theorem draw_wb {c : Int} {ls : List Int} (h : ∀ z ∈ ls, 0 < z) : WB (draw c ls) ls := by
  refine wb_of (by unfold draw; rw [List.length_map, List.length_range]) fun i hi => ?_
  have hm : ls.getD i 0 ∈ ls := by
    rw [List.getD_eq_getElem?_getD, List.getElem?_eq_getElem hi]
    exact List.getElem_mem _
  have e : (draw c ls).getD i 0 = dVal c ls i := by
    unfold draw
    rw [List.getD_eq_getElem?_getD, List.getElem?_map, List.getElem?_range hi]
    rfl
  rw [e]
  exact dVal_nn c ls i (h _ hm)
theorem draw_goW {H : Hp} {Q : VK} {E : XK} {c : Int} {p : Addr} {ls : List Int} (hp : SqL K H p (ls.map V.int)) (hc : Sz 1048600 c) (hl : ∀ z ∈ ls, 0 < z ∧ Sz 64 z) (hn : ls.length ≤ 1000)
    (q : ∀ r ds H', Same H H' → H r = none → H' r = some (.lst (ds.map V.int)) → WB ds ls → Q (.ref r) H') : sp__law_draw K [.int c, .ref p] H Q E :=
  draw_go2 hp hc hl hn fun r H' s hr e => q r _ H' s hr e (draw_wb fun z hz => (hl z hz).1)
theorem wb_len : ∀ {ls ds : List Int}, WB ds ls → ds.length = ls.length
  | [], ds, h => by rw [show ds = [] from h]
  | l :: ls, ds, h => by
    obtain ⟨z, r, rfl, _, _, h⟩ := h
    rw [List.length_cons, List.length_cons, wb_len h]
theorem wb_nn : ∀ {ls ds : List Int}, WB ds ls → ∀ z ∈ ds, 0 ≤ z
  | [], ds, h, z, hz => by rw [show ds = [] from h] at hz; cases hz
  | l :: ls, ds, h, z, hz => by
    obtain ⟨y, r, rfl, h0, _, h⟩ := h
    rcases List.mem_cons.mp hz with e | e
    · rw [e]; exact h0
    · exact wb_nn h z e

/-! ### _law_order -/
def kindsV : List V := [.str "fees", .str "interest", .str "principal"]
/-- the orders of the three kinds -/
def ordOf (k : Int) : List Str := if k = 0 then ["fees", "interest", "principal"] else if k = 1 then ["fees", "principal", "interest"] else if k = 2 then ["interest", "fees", "principal"] else if k = 3 then ["interest", "principal", "fees"] else if k = 4 then ["principal", "fees", "interest"] else ["principal", "interest", "fees"]
@[irreducible] def sp__law_order : Sp := fun vs H Q E => ∃ (k : Int), vs = [.int k] ∧ 0 ≤ k ∧ k < 6 ∧ (∀ p H', Same H H' → H' p = some (.tup ((ordOf k).map V.str)) → Q (.ref p) H')
theorem ok__law_order (T : Txt w K mg) : FnOk P w K mg base (L2.CX P w) 1 T.a__law_order T.fd__law_order ["k"] sp__law_order := by
  refine T.F__law_order.ok sc__law_order (fun vs H Q E h => ?_) (fun cdv A outer s H vs Q E hr h => ?_)
  · unfold sp__law_order at h
    obtain ⟨k, rfl, _⟩ := h
    rfl
  · unfold sp__law_order at h
    obtain ⟨k, rfl, k0, k1, q⟩ := h
    refine ⟨_, (pss_cons (ps_set (i := 1) sc__law_order.nd rfl (Or.inl rfl) (pe_lst (pa_cons pe_str (pa_cons pe_str (pa_cons pe_str pa_nil)))))
    (pss_cons (ps_set (i := 2) sc__law_order.nd rfl (Or.inr rfl) (pe_ix ix_list (pv 1) (pe_op op_fdivB (pv 0) pe_int) (fun _ _ => rfl)))
    (pss_cons (ps_setLc (i := 3) (own := [("kind", 4)])  rfl sc__law_order.nd rfl rfl (sw_true rfl rfl rfl (by decide +kernel)) (pi_list (pv 1)) (blkOk_by (own := [("kind", 4)]) (N := ["k", "kinds", "first", "rest", "kind"]) (sc := defScope s__law_order) (by decide +kernel)) (fun _ _ _ _ _ => (pg_name (i := 4) sc__law_order.nd rfl (Or.inl rfl))) (fun _ _ _ _ _ => (pts_one (pt_cmpR op_ne (pv 4) (pv 2) (nomark _)))) (fun _ _ _ _ _ => (pv 4)))
    (pss_cons (ps_cut (ps_if (pt_cmpR op_eq (pe_op op_mod (pe_callTy call_int1 rfl T.z_int bt_int (pa_cons (pv 0) pa_nil)) pe_int) pe_int (nomark _)) (pss_one (ps_set (i := 3) sc__law_order.nd rfl (Or.inl rfl) (pe_lst (pa_cons (pe_ix ix_list (pv 3) pe_int (fun _ _ => rfl)) (pa_cons (pe_ix ix_list (pv 3) pe_int (fun _ _ => rfl)) pa_nil))))) pss_nil))
    (pss_one (ps_ret (pe_tup (pa_cons (pv 2) (pa_cons (pe_ix ix_list (pv 3) pe_int (fun _ _ => rfl)) (pa_cons (pe_ix ix_list (pv 3) pe_int (fun _ _ => rfl)) pa_nil)))))))))), ?_⟩
    obtain ⟨f, hf⟩ : ∃ f : Str, atI kindsV (k / 2) = some (.str f) := by
      have h : k = 0 ∨ k = 1 ∨ k = 2 ∨ k = 3 ∨ k = 4 ∨ k = 5 := by omega
      rcases h with rfl | rfl | rfl | rfl | rfl | rfl <;> exact ⟨_, rfl⟩
    have cd : CD k 2 := ⟨by decide, by decide⟩
    walk_at "rd"
    rename_i p0 n0
    have hK : SqL K (upd H p0 (.lst kindsV)) p0 kindsV := l_of upd_same
    refine ⟨⟨_, hK⟩, fun D nD => lc_filV (xs := kindsV) (fun x => !decide (x = .str f)) nD hK (by rw [sizeLine_eq]; exact Nat.le_of_ble_eq_true (by rfl)) (fun x hx H2 N acc eD hacc y1 y2 => ?_) ?_⟩
    · obtain ⟨z, rfl⟩ : ∃ z, x = .str z := by
        simp only [kindsV, List.mem_cons, List.not_mem_nil, or_false] at hx
        rcases hx with rfl | rfl | rfl <;> exact ⟨_, rfl⟩
      walk_at "rd"
      refine iteSN (fun c => ?_) (fun c => ?_)
      · walk_at "rd"
        exact ⟨acc, eD, hacc, y1 (by simp [c])⟩
      · exact y2 (by simp [c])
    have rest : ∃ r1 r2 : Str, kindsV.filter (fun x => !decide (x = .str f)) = [.str r1, .str r2] ∧ (if k % 2 = 1 then [f, r2, r1] else [f, r1, r2]) = ordOf k := by
      have h : k = 0 ∨ k = 1 ∨ k = 2 ∨ k = 3 ∨ k = 4 ∨ k = 5 := by omega
      rcases h with rfl | rfl | rfl | rfl | rfl | rfl <;> (cases hf; exact ⟨_, _, rfl, rfl⟩)
    obtain ⟨r1, r2, er, eo⟩ := rest
    rw [er]
    have s1 : Same H (upd (upd H p0 (.lst kindsV)) D (.lst [.str r1, .str r2])) := same_new (same_new (Same.refl H) n0) nD
    have eD : (upd (upd H p0 (.lst kindsV)) D (.lst [.str r1, .str r2])) D = some (.lst [.str r1, .str r2]) := upd_same
    refine ⟨fun σ' H' => Wall (∃ (D' : Addr) (a b : Str), Same H H' ∧ H' D' = some (.lst [.str a, .str b]) ∧ σ' = [some (.int k), some (.ref p0), some (.str f), some (.ref D'), none] ∧ [f, a, b] = ordOf k), ?_, ?_⟩
    · walk_at "rd"
      refine iteI (fun c => ?_) (fun c => ?_)
      · have L := l_of (K := K) eD
        walk_at "rd"
        rename_i p2 n2
        rw [if_pos c] at eo
        exact wall ⟨p2, r2, r1, same_new s1 n2, upd_same, rfl, eo⟩
      · rw [if_neg c] at eo
        exact wall ⟨D, r1, r2, s1, eD, rfl, eo⟩
    rintro σ' H' ⟨w1⟩
    obtain ⟨D', a, b, s2, e2, rfl, eo2⟩ := w1 trivial
    have L := l_of (K := K) e2
    walk_at "rd"
    rename_i p3 n3
    refine q p3 _ (same_new s2 n3) (upd_same.trans ?_)
    rw [← eo2]
    rfl
theorem _law_order_go {H : Hp} {Q : VK} {E : XK} {k : Int} (k0 : 0 ≤ k) (k1 : k < 6) (q : ∀ p H', Same H H' → H' p = some (.tup ((ordOf k).map V.str)) → Q (.ref p) H') : sp__law_order [.int k] H Q E := by
  unfold sp__law_order
  exact ⟨k, rfl, k0, k1, q⟩

/-! ### _law_fields -/
theorem bitmul {a b n : Int} (h0 : 0 ≤ a) (h1 : a < n) (h2 : 0 ≤ b) (h3 : b < 2) : 0 ≤ a * b ∧ a * b < n := by
  obtain rfl | rfl : b = 0 ∨ b = 1 := by omega
  · rw [Int.mul_zero]; omega
  · rw [Int.mul_one]; omega
theorem conv_at {i : Int} (h0 : 0 ≤ i) (h : i < 4) : ∃ z : Str, atI [V.str "actual/365", V.str "actual/360", V.str "30/360", V.str "actual/actual"] i = some (.str z) ∧ partsOf z ≠ none ∧ z.length ≤ 1000000 := by
  obtain rfl | rfl | rfl | rfl : i = 0 ∨ i = 1 ∨ i = 2 ∨ i = 3 := by omega
  all_goals exact ⟨_, rfl, by decide +kernel, Nat.le_of_ble_eq_true (by rfl)⟩
theorem mode_at {i : Int} (h0 : 0 ≤ i) (h : i < 4) : ∃ z : Str, atI [V.str "near", V.str "down", V.str "up", V.str "even"] i = some (.str z) ∧ isModeT z = true ∧ z.length ≤ 1000000 := by
  obtain rfl | rfl | rfl | rfl : i = 0 ∨ i = 1 ∨ i = 2 ∨ i = 3 := by omega
  all_goals exact ⟨_, rfl, by decide +kernel, Nat.le_of_ble_eq_true (by rfl)⟩
theorem scheme_at {i : Int} (h0 : 0 ≤ i) (h : i < 3) : ∃ z : Str, atI [V.str "annuity", V.str "equal", V.str "bullet"] i = some (.str z) ∧ isSchemeT z = true ∧ z.length ≤ 1000000 := by
  obtain rfl | rfl | rfl : i = 0 ∨ i = 1 ∨ i = 2 := by omega
  all_goals exact ⟨_, rfl, by decide +kernel, Nat.le_of_ble_eq_true (by rfl)⟩
theorem everyF_at {i : Int} (h0 : 0 ≤ i) (h : i < 6) : ∃ z : Int, atI [V.int 1, V.int 2, V.int 3, V.int 4, V.int 6, V.int 12] i = some (.int z) ∧ isEveryT z = true := by
  obtain rfl | rfl | rfl | rfl | rfl | rfl : i = 0 ∨ i = 1 ∨ i = 2 ∨ i = 3 ∨ i = 4 ∨ i = 5 := by omega
  all_goals exact ⟨_, rfl, by decide +kernel⟩
theorem ruleF_at {i : Int} (h0 : 0 ≤ i) (h : i < 4) : ∃ z : Str, atI [V.str "none", V.str "following", V.str "preceding", V.str "modified"] i = some (.str z) ∧ isRuleT z = true ∧ z.length ≤ 1000000 := by
  obtain rfl | rfl | rfl | rfl : i = 0 ∨ i = 1 ∨ i = 2 ∨ i = 3 := by omega
  all_goals exact ⟨_, rfl, by decide +kernel, Nat.le_of_ble_eq_true (by rfl)⟩
theorem four_at {a b c d i : Int} (h0 : 0 ≤ i) (h : i < 4) (ha : 0 ≤ a ∧ a ≤ 1000000) (hb : 0 ≤ b ∧ b ≤ 1000000) (hc : 0 ≤ c ∧ c ≤ 1000000) (hd : 0 ≤ d ∧ d ≤ 1000000) : ∃ z : Int, atI [V.int a, V.int b, V.int c, V.int d] i = some (.int z) ∧ 0 ≤ z ∧ z ≤ 1000000 := by
  obtain rfl | rfl | rfl | rfl : i = 0 ∨ i = 1 ∨ i = 2 ∨ i = 3 := by omega
  · exact ⟨_, rfl, ha⟩
  · exact ⟨_, rfl, hb⟩
  · exact ⟨_, rfl, hc⟩
  · exact ⟨_, rfl, hd⟩
theorem calN (i : Int) (h0 : 0 ≤ i) (h : i < 12) : nameB ("c" ++ (toString i : Str)) = true ∧ ("c" ++ (toString i : Str) : Str).length ≤ 1000000 := by
  have h : i = 0 ∨ i = 1 ∨ i = 2 ∨ i = 3 ∨ i = 4 ∨ i = 5 ∨ i = 6 ∨ i = 7 ∨ i = 8 ∨ i = 9 ∨ i = 10 ∨ i = 11 := by omega
  rcases h with rfl | rfl | rfl | rfl | rfl | rfl | rfl | rfl | rfl | rfl | rfl | rfl <;> exact ⟨by decide +kernel, by decide +kernel⟩
theorem ord_ok {k : Int} (h0 : 0 ≤ k) (h : k < 6) : (ordOf k).Perm usualO ∧ (ordOf k).length ≤ 60 ∧ (ordOf k).all okS = true := by
  obtain rfl | rfl | rfl | rfl | rfl | rfl : k = 0 ∨ k = 1 ∨ k = 2 ∨ k = 3 ∨ k = 4 ∨ k = 5 := by omega
  all_goals exact ⟨by decide +kernel, by decide +kernel, by decide +kernel⟩
theorem nameB_len {z : Str} (h : nameB z = true) : z.length ≤ 1000000 := by
  have := (nameB_iff.mp h).2.1
  omega
theorem ixN36 (i : Int) (h0 : 0 ≤ i) (h : i < 36) : nameB ("x" ++ (toString i : Str)) = true := by
  obtain ⟨n, rfl⟩ : ∃ n : Nat, i = n := ⟨i.toNat, by omega⟩
  have : ∀ n : Nat, n < 36 → nameB ("x" ++ (toString (n : Int) : Str)) = true := by decide +kernel
  exact this n (by omega)
@[irreducible] def sp__law_fields : Sp := fun vs H Q E => ∃ (c : Int) (nm : Str), vs = [.int c, .str nm] ∧ Sz 1048590 c ∧ nameB nm = true ∧ (∀ p H' t os, Same H H' → H p = none → TermD H' p t os → (t.name = nm ∧ (t.cal = "" → t.rule = "none")) → Q (.ref p) H')
theorem ok__law_fields (T : Txt w K mg) : FnOk P w K mg base (L2.CX P w) 2 T.a__law_fields T.fd__law_fields ["cell", "name"] sp__law_fields := by
  refine T.F__law_fields.ok sc__law_fields (fun vs H Q E h => ?_) (fun cdv A outer s H vs Q E hr h => ?_)
  · unfold sp__law_fields at h
    obtain ⟨c, nm, rfl, _⟩ := h
    rfl
  · unfold sp__law_fields at h
    obtain ⟨c, nm, rfl, cs, hnm, q⟩ := h
    refine ⟨_, (pss_cons (ps_set (i := 2) sc__law_fields.nd rfl (Or.inl rfl) (pe_callS (ok__law_draw T) (hr.mono (by decide)) rfl T.m__law_draw T.F__law_draw.kp T.b__law_draw (fun σ => passAt (takes_of rfl rfl rfl rfl) σ) (pa_cons (pv 0) (pa_cons (pe_lst (pa_cons pe_int (pa_cons pe_int (pa_cons pe_int (pa_cons pe_int (pa_cons pe_int (pa_cons pe_int (pa_cons pe_int (pa_cons pe_int (pa_cons pe_int (pa_cons pe_int (pa_cons pe_int (pa_cons pe_int (pa_cons pe_int (pa_cons pe_int (pa_cons pe_int pa_nil)))))))))))))))) pa_nil))))
    (pss_cons (ps_set (i := 3) sc__law_fields.nd rfl (Or.inl rfl) (pe_callS (ok__law_draw T) (hr.mono (by decide)) rfl T.m__law_draw T.F__law_draw.kp T.b__law_draw (fun σ => passAt (takes_of rfl rfl rfl rfl) σ) (pa_cons (pe_op op_add (pv 0) pe_int) (pa_cons (pe_lst (pa_cons pe_int (pa_cons pe_int (pa_cons pe_int (pa_cons pe_int (pa_cons pe_int (pa_cons pe_int (pa_cons pe_int (pa_cons pe_int (pa_cons pe_int pa_nil)))))))))) pa_nil))))
    (pss_cons (ps_set (i := 4) sc__law_fields.nd rfl (Or.inl rfl) (pe_disp (pps_cons pe_str (pv 1) (pps_cons pe_str (pe_op op_add pe_int (pe_ix ix_list (pv 2) pe_int (fun _ _ => rfl))) (pps_cons pe_str pe_int (pps_cons pe_str pe_int (pps_cons pe_str pe_str (pps_cons pe_str pe_str (pps_cons pe_str pe_str pps_nil))))))) (by rfl) (by rfl) (fun z => by cases z) (by decide)))
    (pss_cons (ps_dput (hu_of hr) (pv 4) pe_str (pe_ix ix_list (pv 2) pe_int (fun _ _ => rfl)) rfl)
    (pss_cons (ps_dput (hu_of hr) (pv 4) pe_str pe_int rfl)
    (pss_cons (ps_dput (hu_of hr) (pv 4) pe_str pe_int rfl)
    (pss_cons (ps_dput (hu_of hr) (pv 4) pe_str (pe_ix ix_list (pe_lst (pa_cons pe_str (pa_cons pe_str (pa_cons pe_str (pa_cons pe_str pa_nil))))) (pe_op op_mulB (pe_ix ix_list (pv 2) pe_int (fun _ _ => rfl)) (pe_op op_mod (pe_callTy call_int1 rfl T.z_int bt_int (pa_cons (pe_ix ix_list (pv 3) pe_int (fun _ _ => rfl)) pa_nil)) pe_int)) (fun _ _ => rfl)) rfl)
    (pss_cons (ps_dput (hu_of hr) (pv 4) pe_str (pe_ix ix_list (pe_lst (pa_cons pe_str (pa_cons pe_str (pa_cons pe_str (pa_cons pe_str pa_nil))))) (pe_op op_mulB (pe_ix ix_list (pv 2) pe_int (fun _ _ => rfl)) (pe_op op_mod (pe_op op_fdivB (pe_callTy call_int1 rfl T.z_int bt_int (pa_cons (pe_ix ix_list (pv 3) pe_int (fun _ _ => rfl)) pa_nil)) pe_int) pe_int)) (fun _ _ => rfl)) rfl)
    (pss_cons (ps_dput (hu_of hr) (pv 4) pe_str (pe_ix ix_list (pe_lst (pa_cons pe_str (pa_cons pe_str (pa_cons pe_str pa_nil)))) (pe_ix ix_list (pv 2) pe_int (fun _ _ => rfl)) (fun _ _ => rfl)) rfl)
    (pss_cons (ps_dput (hu_of hr) (pv 4) pe_str (pe_op op_mulB (pe_op op_mod (pe_callTy call_int1 rfl T.z_int bt_int (pa_cons (pe_ix ix_list (pv 2) pe_int (fun _ _ => rfl)) pa_nil)) (pe_dget (hu_of hr) (pv 4) pe_str (fun _ _ => rfl))) (pe_op op_mod (pe_op op_fdivB (pe_callTy call_int1 rfl T.z_int bt_int (pa_cons (pe_ix ix_list (pv 3) pe_int (fun _ _ => rfl)) pa_nil)) pe_int) pe_int)) rfl)
    (pss_cons (ps_cut (ps_if (pt_cmpR op_eq (pe_op op_mod (pe_op op_fdivB (pe_callTy call_int1 rfl T.z_int bt_int (pa_cons (pe_ix ix_list (pv 3) pe_int (fun _ _ => rfl)) pa_nil)) pe_int) pe_int) pe_int (nomark _)) (pss_one (ps_dput (hu_of hr) (pv 4) pe_str (pe_ix ix_list (pe_lst (pa_cons pe_int (pa_cons pe_int (pa_cons pe_int (pa_cons pe_int (pa_cons pe_int (pa_cons pe_int pa_nil))))))) (pe_ix ix_list (pv 2) pe_int (fun _ _ => rfl)) (fun _ _ => rfl)) rfl)) pss_nil))
    (pss_cons (ps_cut (ps_if (pt_cmpR op_eq (pe_op op_mod (pe_op op_fdivB (pe_callTy call_int1 rfl T.z_int bt_int (pa_cons (pe_ix ix_list (pv 3) pe_int (fun _ _ => rfl)) pa_nil)) pe_int) pe_int) pe_int (nomark _)) (pss_cons (ps_dput (hu_of hr) (pv 4) pe_str (pe_op op_add pe_int (pe_ix ix_list (pv 2) pe_int (fun _ _ => rfl))) rfl)
      (pss_one (ps_cut (ps_if (pt_cmpR op_gt (pe_ix ix_list (pv 2) pe_int (fun _ _ => rfl)) pe_int (nomark _)) (pss_cons (ps_dput (hu_of hr) (pv 4) pe_str (pe_ix ix_list (pe_lst (pa_cons pe_str (pa_cons pe_str (pa_cons pe_str (pa_cons pe_str pa_nil))))) (pe_ix ix_list (pv 2) pe_int (fun _ _ => rfl)) (fun _ _ => rfl)) rfl)
        (pss_one (ps_dput (hu_of hr) (pv 4) pe_str (pe_op op_addS pe_str (pe_callTy call_strI rfl T.z_str bt_str (pa_cons (pe_ix ix_list (pv 3) pe_int (fun _ _ => rfl)) pa_nil))) rfl))) pss_nil)))) pss_nil))
    (pss_cons (ps_cut (ps_if (pt_cmpR op_eq (pe_op op_mod (pe_op op_fdivB (pe_callTy call_int1 rfl T.z_int bt_int (pa_cons (pe_ix ix_list (pv 3) pe_int (fun _ _ => rfl)) pa_nil)) pe_int) pe_int) pe_int (nomark _)) (pss_cons (ps_dput (hu_of hr) (pv 4) pe_str (pe_op op_addS pe_str (pe_callTy call_strI rfl T.z_str bt_str (pa_cons (pe_ix ix_list (pv 3) pe_int (fun _ _ => rfl)) pa_nil))) rfl)
      (pss_one (ps_cut (ps_if (pt_cmpR op_gt (pe_ix ix_list (pv 2) pe_int (fun _ _ => rfl)) pe_int (nomark _)) (pss_cons (ps_dput (hu_of hr) (pv 4) pe_str (pe_callB (call_mn rfl) rfl T.z_min bt_min (pa_cons (pe_ix ix_list (pv 2) pe_int (fun _ _ => rfl)) (pa_cons (pe_ix ix_list (pv 2) pe_int (fun _ _ => rfl)) pa_nil))) rfl)
        (pss_one (ps_dput (hu_of hr) (pv 4) pe_str (pe_callB (call_mx rfl) rfl T.z_max bt_max (pa_cons (pe_ix ix_list (pv 2) pe_int (fun _ _ => rfl)) (pa_cons (pe_ix ix_list (pv 2) pe_int (fun _ _ => rfl)) pa_nil))) rfl))) pss_nil)))) pss_nil))
    (pss_cons (ps_cut (ps_if (pt_cmpR op_eq (pe_op op_mod (pe_op op_fdivB (pe_callTy call_int1 rfl T.z_int bt_int (pa_cons (pe_ix ix_list (pv 3) pe_int (fun _ _ => rfl)) pa_nil)) pe_int) pe_int) pe_int (nomark _)) (pss_one (ps_dput (hu_of hr) (pv 4) pe_str (pe_ix ix_list (pe_lst (pa_cons pe_int (pa_cons pe_int (pa_cons (pe_op op_mulB (pe_op op_mod (pe_callTy call_int1 rfl T.z_int bt_int (pa_cons (pe_ix ix_list (pv 2) pe_int (fun _ _ => rfl)) pa_nil)) pe_int) pe_int) (pa_cons (pe_op op_mulB (pe_op op_mod (pe_callTy call_int1 rfl T.z_int bt_int (pa_cons (pe_ix ix_list (pv 2) pe_int (fun _ _ => rfl)) pa_nil)) pe_int) pe_int) pa_nil))))) (pe_op op_mod (pe_callTy call_int1 rfl T.z_int bt_int (pa_cons (pe_ix ix_list (pv 2) pe_int (fun _ _ => rfl)) pa_nil)) pe_int) (fun _ _ => rfl)) rfl)) pss_nil))
    (pss_cons (ps_dput (hu_of hr) (pv 4) pe_str (pe_op op_mulB (pe_ix ix_list (pv 2) pe_int (fun _ _ => rfl)) (pe_op op_mod (pe_op op_fdivB (pe_callTy call_int1 rfl T.z_int bt_int (pa_cons (pe_ix ix_list (pv 3) pe_int (fun _ _ => rfl)) pa_nil)) pe_int) pe_int)) rfl)
    (pss_cons (ps_dput (hu_of hr) (pv 4) pe_str (pe_op op_mulB (pe_ix ix_list (pv 2) pe_int (fun _ _ => rfl)) (pe_op op_mod (pe_op op_fdivB (pe_callTy call_int1 rfl T.z_int bt_int (pa_cons (pe_ix ix_list (pv 3) pe_int (fun _ _ => rfl)) pa_nil)) pe_int) pe_int)) rfl)
    (pss_cons (ps_dput (hu_of hr) (pv 4) pe_str (pe_op op_mulB (pe_ix ix_list (pv 2) pe_int (fun _ _ => rfl)) (pe_op op_mod (pe_op op_fdivB (pe_callTy call_int1 rfl T.z_int bt_int (pa_cons (pe_ix ix_list (pv 3) pe_int (fun _ _ => rfl)) pa_nil)) pe_int) pe_int)) rfl)
    (pss_cons (ps_dput (hu_of hr) (pv 4) pe_str (pe_op op_mulB (pe_ix ix_list (pv 3) pe_int (fun _ _ => rfl)) (pe_op op_mod (pe_op op_fdivB (pe_callTy call_int1 rfl T.z_int bt_int (pa_cons (pe_ix ix_list (pv 3) pe_int (fun _ _ => rfl)) pa_nil)) pe_int) pe_int)) rfl)
    (pss_cons (ps_dput (hu_of hr) (pv 4) pe_str pe_int rfl)
    (pss_cons (ps_cut (ps_if (pt_cmpR op_eq (pe_op op_mod (pe_op op_fdivB (pe_callTy call_int1 rfl T.z_int bt_int (pa_cons (pe_ix ix_list (pv 3) pe_int (fun _ _ => rfl)) pa_nil)) pe_int) pe_int) pe_int (nomark _)) (pss_one (ps_dput (hu_of hr) (pv 4) pe_str (pe_ix ix_list (pv 3) pe_int (fun _ _ => rfl)) rfl)) pss_nil))
    (pss_cons (ps_cut (ps_if (pt_cmpR op_gt (pe_dget (hu_of hr) (pv 4) pe_str (fun _ _ => rfl)) pe_int (nomark _)) (pss_one (ps_dput (hu_of hr) (pv 4) pe_str (pe_callB (call_mn rfl) rfl T.z_min bt_min (pa_cons (pe_dget (hu_of hr) (pv 4) pe_str (fun _ _ => rfl)) (pa_cons (pe_op op_sub (pe_op op_mulB pe_int (pe_dget (hu_of hr) (pv 4) pe_str (fun _ _ => rfl))) pe_int) pa_nil))) rfl)) pss_nil))
    (pss_cons (ps_dput (hu_of hr) (pv 4) pe_str (pe_op op_mulB (pe_ix ix_list (pv 3) pe_int (fun _ _ => rfl)) (pe_op op_mod (pe_op op_fdivB (pe_callTy call_int1 rfl T.z_int bt_int (pa_cons (pe_ix ix_list (pv 3) pe_int (fun _ _ => rfl)) pa_nil)) pe_int) pe_int)) rfl)
    (pss_cons (ps_dput (hu_of hr) (pv 4) pe_str (pe_op op_mulB (pe_ix ix_list (pv 3) pe_int (fun _ _ => rfl)) (pe_op op_mod (pe_op op_fdivB (pe_callTy call_int1 rfl T.z_int bt_int (pa_cons (pe_ix ix_list (pv 3) pe_int (fun _ _ => rfl)) pa_nil)) pe_int) pe_int)) rfl)
    (pss_cons (ps_dput (hu_of hr) (pv 4) pe_str (pe_callS (ok__law_order T) (hr.mono (by decide)) rfl T.m__law_order T.F__law_order.kp T.b__law_order (fun σ => passAt (takes_of rfl rfl rfl rfl) σ) (pa_cons (pe_op op_mulB (pe_ix ix_list (pv 3) pe_int (fun _ _ => rfl)) (pe_op op_mod (pe_op op_fdivB (pe_callTy call_int1 rfl T.z_int bt_int (pa_cons (pe_ix ix_list (pv 3) pe_int (fun _ _ => rfl)) pa_nil)) pe_int) pe_int)) pa_nil)) rfl)
    (pss_cons (ps_dput (hu_of hr) (pv 4) pe_str (pe_op op_mulB (pe_ix ix_list (pv 3) pe_int (fun _ _ => rfl)) (pe_op op_mod (pe_op op_fdivB (pe_callTy call_int1 rfl T.z_int bt_int (pa_cons (pe_ix ix_list (pv 3) pe_int (fun _ _ => rfl)) pa_nil)) pe_int) pe_int)) rfl)
    (pss_one (ps_ret (pv 4)))))))))))))))))))))))))))), ?_⟩
    walk_at "rd"
    rename_i pl npl
    refine draw_goW (ls := [480, 6, 31, 4, 3, 1000001, 1000001, 1000001, 4, 4, 3, 480, 1000000000001, 1001, 1000000000001]) (l_of upd_same) (cs.mono (by decide)) (lims_ok (by decide +kernel)) (by decide) fun pd ds Ha sa nra ea wa => ?_
    have sHa := (same_new (o := .lst [.int 480, .int 6, .int 31, .int 4, .int 3, .int 1000001, .int 1000001, .int 1000001, .int 4, .int 4, .int 3, .int 480, .int 1000000000001, .int 1001, .int 1000000000001]) (Same.refl H) npl).trans sa
    obtain ⟨d0, _, rfl, d0a, d0b, d1, _, rfl, d1a, d1b, d2, _, rfl, d2a, d2b, d3, _, rfl, d3a, d3b, d4, _, rfl, d4a, d4b, d5, _, rfl, d5a, d5b, d6, _, rfl, d6a, d6b, d7, _, rfl, d7a, d7b, d8, _, rfl, d8a, d8b, d9, _, rfl, d9a, d9b, d10, _, rfl, d10a, d10b, d11, _, rfl, d11a, d11b, d12, _, rfl, d12a, d12b, d13, _, rfl, d13a, d13b, d14, _, rfl, d14a, d14b, rfl⟩ := wa
    have Lda := l_of (K := K) ea
    clear sa nra npl
    walk_at "rd"
    rename_i pl2 npl2
    refine draw_goW (ls := [1000000000001, 91, 1001, 481, 6, 1000001, 65536, 12, 36]) (l_of upd_same) ((cs.add (⟨by decide⟩ : Sz 1 1)).mono (by decide)) (lims_ok (by decide +kernel)) (by decide) fun pe es Hb sb nrb eb wb => ?_
    have sab := (same_new (o := .lst [.int 1000000000001, .int 91, .int 1001, .int 481, .int 6, .int 1000001, .int 65536, .int 12, .int 36]) (Same.refl Ha) npl2).trans sb
    obtain ⟨e0, _, rfl, e0a, e0b, e1, _, rfl, e1a, e1b, e2, _, rfl, e2a, e2b, e3, _, rfl, e3a, e3b, e4, _, rfl, e4a, e4b, e5, _, rfl, e5a, e5b, e6, _, rfl, e6a, e6b, e7, _, rfl, e7a, e7b, e8, _, rfl, e8a, e8b, rfl⟩ := wb
    have Le0 := l_of (K := K) eb
    have Ld0 := same_lst sab Lda
    have sHb := sHa.trans sab
    clear sb nrb npl2 sab sHa Lda ea eb
    have B : (0 ≤ d0 ∧ d0 < 480) ∧ (0 ≤ d1 ∧ d1 < 6) ∧ (0 ≤ d2 ∧ d2 < 31) ∧ (0 ≤ d3 ∧ d3 < 4) ∧ (0 ≤ d4 ∧ d4 < 3) ∧ (0 ≤ d5 ∧ d5 < 1000001) ∧ (0 ≤ d6 ∧ d6 < 1000001) ∧ (0 ≤ d7 ∧ d7 < 1000001) ∧ (0 ≤ d8 ∧ d8 < 4) ∧ (0 ≤ d9 ∧ d9 < 4) ∧ (0 ≤ d10 ∧ d10 < 3) ∧ (0 ≤ d11 ∧ d11 < 480) ∧ (0 ≤ d12 ∧ d12 < 1000000000001) ∧ (0 ≤ d13 ∧ d13 < 1001) ∧ (0 ≤ d14 ∧ d14 < 1000000000001) ∧ (0 ≤ e0 ∧ e0 < 1000000000001) ∧ (0 ≤ e1 ∧ e1 < 91) ∧ (0 ≤ e2 ∧ e2 < 1001) ∧ (0 ≤ e3 ∧ e3 < 481) ∧ (0 ≤ e4 ∧ e4 < 6) ∧ (0 ≤ e5 ∧ e5 < 1000001) ∧ (0 ≤ e6 ∧ e6 < 65536) ∧ (0 ≤ e7 ∧ e7 < 12) ∧ (0 ≤ e8 ∧ e8 < 36) := ⟨⟨d0a, d0b⟩, ⟨d1a, d1b⟩, ⟨d2a, d2b⟩, ⟨d3a, d3b⟩, ⟨d4a, d4b⟩, ⟨d5a, d5b⟩, ⟨d6a, d6b⟩, ⟨d7a, d7b⟩, ⟨d8a, d8b⟩, ⟨d9a, d9b⟩, ⟨d10a, d10b⟩, ⟨d11a, d11b⟩, ⟨d12a, d12b⟩, ⟨d13a, d13b⟩, ⟨d14a, d14b⟩, ⟨e0a, e0b⟩, ⟨e1a, e1b⟩, ⟨e2a, e2b⟩, ⟨e3a, e3b⟩, ⟨e4a, e4b⟩, ⟨e5a, e5b⟩, ⟨e6a, e6b⟩, ⟨e7a, e7b⟩, ⟨e8a, e8b⟩⟩
    clear d0a d0b d1a d1b d2a d2b d3a d3b d4a d4b d5a d5b d6a d6b d7a d7b d8a d8b d9a d9b d10a d10b d11a d11b d12a d12b d13a d13b d14a d14b e0a e0b e1a e1b e2a e2b e3a e3b e4a e4b e5a e5b e6a e6b e7a e7b e8a e8b
    walk_at "rd"
    refine fun p np => ?_
    have Ld1 : ∀ o, SqL K (upd Hb p o) pd _ := fun o => same_lst (same_new (Same.refl Hb) np) Ld0
    walk_at "rd"
    dsimp only [tPairs, tC]
    walk_at "rd"
    refine ⟨upd_same, zK (keysL.take 7) [.str nm, .int (1 + d0), .int 1, .int 1, .str "", .str "none", .str ""], rfl, Nat.le_of_ble_eq_true rfl, ?_⟩
    have eF : (upd (upd Hb p (.dK [])) p (.dK (mergeK [] (zK (keysL.take 7) [.str nm, .int (1 + d0), .int 1, .int 1, .str "", .str "none", .str ""])))) p = some (.dK (zK (keysL.take 7) [.str nm, .int (1 + d0), .int 1, .int 1, .str "", .str "none", .str ""])) := by rw [upd_same]; rfl
    have sF : Same Hb (upd (upd Hb p (.dK [])) p (.dK (mergeK [] (zK (keysL.take 7) [.str nm, .int (1 + d0), .int 1, .int 1, .str "", .str "none", .str ""])))) := same_set (same_new (Same.refl Hb) np) np
    clear Ld1
    generalize (upd (upd Hb p (.dK [])) p (.dK (mergeK [] (zK (keysL.take 7) [.str nm, .int (1 + d0), .int 1, .int 1, .str "", .str "none", .str ""])))) = HF at *
    have LdF := same_lst sF Ld0
    have LeF := same_lst sF Le0
    walk_at "rd"
    refine dputL 7 (sF) np (eF) rfl (by decide) rfl fun H1 s1 f1 e1 => ?_
    replace e1 : H1 p = some (.dK (zK (keysL.take 8) [.str nm, .int (1 + d0), .int 1, .int 1, .str "", .str "none", .str "", .int d5])) := e1
    have Ld1 := same_lst s1 Ld0
    have Le1 := same_lst s1 Le0
    clear eF sF LdF LeF f1
    walk_at "rd"
    refine dputL 8 (s1) np (e1) rfl (by decide) rfl fun H2 s2 f2 e2 => ?_
    replace e2 : H2 p = some (.dK (zK (keysL.take 9) [.str nm, .int (1 + d0), .int 1, .int 1, .str "", .str "none", .str "", .int d5, .int 0])) := e2
    have Ld2 := same_lst s2 Ld0
    have Le2 := same_lst s2 Le0
    clear e1 s1 Ld1 Le1 f2
    walk_at "rd"
    have b6 : 0 ≤ e6 % 2 ∧ e6 % 2 < 2 := by omega
    obtain ⟨cv, hcv, hcv1, hcv2⟩ := conv_at (bitmul (a := d8) (n := 4) (by omega) (by omega) b6.1 b6.2).1 (bitmul (a := d8) (n := 4) (by omega) (by omega) b6.1 b6.2).2
    have c6 : 0 ≤ e6 / 2 % 2 ∧ e6 / 2 % 2 < 2 := by omega
    obtain ⟨md, hmd, hmd1, hmd2⟩ := mode_at (bitmul (a := d9) (n := 4) (by omega) (by omega) c6.1 c6.2).1 (bitmul (a := d9) (n := 4) (by omega) (by omega) c6.1 c6.2).2
    obtain ⟨sm, hsm, hsm1, hsm2⟩ := scheme_at (i := d10) (by omega) (by omega)
    refine dputL 9 (s2) np (e2) rfl (by decide) rfl fun H3 s3 f3 e3 => ?_
    replace e3 : H3 p = some (.dK (zK (keysL.take 10) [.str nm, .int (1 + d0), .int 1, .int 1, .str "", .str "none", .str "", .int d5, .int 0, .int 1000000])) := e3
    have Ld3 := same_lst s3 Ld0
    have Le3 := same_lst s3 Le0
    clear e2 s2 Ld2 Le2 f3
    walk_at "rd"
    rename_i q4 nq4
    refine dputL 10 (same_new s3 nq4) np (hp_upd nq4 e3) rfl (by decide) rfl fun H5 s5 f5 e5 => ?_
    replace e5 : H5 p = some (.dK (zK (keysL.take 11) [.str nm, .int (1 + d0), .int 1, .int 1, .str "", .str "none", .str "", .int d5, .int 0, .int 1000000, .str cv])) := e5
    have Ld5 := same_lst s5 Ld0
    have Le5 := same_lst s5 Le0
    clear e3 s3 Ld3 Le3 f5
    walk_at "rd"
    rename_i q6 nq6
    refine dputL 11 (same_new s5 nq6) np (hp_upd nq6 e5) rfl (by decide) rfl fun H7 s7 f7 e7 => ?_
    replace e7 : H7 p = some (.dK (zK (keysL.take 12) [.str nm, .int (1 + d0), .int 1, .int 1, .str "", .str "none", .str "", .int d5, .int 0, .int 1000000, .str cv, .str md])) := e7
    have Ld7 := same_lst s7 Ld0
    have Le7 := same_lst s7 Le0
    clear e5 s5 Ld5 Le5 f7
    walk_at "rd"
    rename_i q8 nq8
    refine dputL 12 (same_new s7 nq8) np (hp_upd nq8 e7) rfl (by decide) rfl fun H9 s9 f9 e9 => ?_
    replace e9 : H9 p = some (.dK (zK (keysL.take 13) [.str nm, .int (1 + d0), .int 1, .int 1, .str "", .str "none", .str "", .int d5, .int 0, .int 1000000, .str cv, .str md, .str sm])) := e9
    have Ld9 := same_lst s9 Ld0
    have Le9 := same_lst s9 Le0
    clear e7 s7 Ld7 Le7 f9
    walk_at "rd"
    have hm0 : 0 ≤ d11 % (1 + d0) := Int.emod_nonneg _ (by omega)
    have hm1 : d11 % (1 + d0) < 1 + d0 := Int.emod_lt_of_pos _ (by omega)
    have zf : Sz 64 (d11 % (1 + d0)) := Sz.mk (by omega)
    refine dgetL 1 13 e9 (by decide) rfl rfl ?_
    walk_at "rd"
    refine dputL 13 (s9) np (e9) rfl (by decide) rfl fun H10 s10 f10 e10 => ?_
    replace e10 : H10 p = some (.dK (zK (keysL.take 14) [.str nm, .int (1 + d0), .int 1, .int 1, .str "", .str "none", .str "", .int d5, .int 0, .int 1000000, .str cv, .str md, .str sm, .int (d11 % (1 + d0) * (e6 / 4 % 2))])) := e10
    have Ld10 := same_lst s10 Ld0
    have Le10 := same_lst s10 Le0
    clear e9 s9 Ld9 Le9 f10
    walk_at "rd"
    refine ⟨fun σ' H' => Wall (∃ (ev : Int), isEveryT ev = true ∧ Same Hb H' ∧ H' p = some (.dK (zK (keysL.take 14) [.str nm, .int (1 + d0), .int ev, .int 1, .str "", .str "none", .str "", .int d5, .int 0, .int 1000000, .str cv, .str md, .str sm, .int (d11 % (1 + d0) * (e6 / 4 % 2))])) ∧ σ' = [some (.int c), some (.str nm), some (.ref pd), some (.ref pe), some (.ref p)]), ?_, ?_⟩
    · obtain ⟨ev0, hev0, hev1⟩ := everyF_at (i := d1) (by omega) (by omega)
      walk_at "rd"
      refine iteI (fun c1 => ?_) (fun c1 => ?_)
      · walk_at "rd"
        rename_i q11 nq11
        refine dsetL 2 14 (same_new s10 nq11) np (hp_upd nq11 e10) rfl (by decide) (by decide) rfl fun H12 s12 f12 e12 => ?_
        replace e12 : H12 p = some (.dK (zK (keysL.take 14) [.str nm, .int (1 + d0), .int ev0, .int 1, .str "", .str "none", .str "", .int d5, .int 0, .int 1000000, .str cv, .str md, .str sm, .int (d11 % (1 + d0) * (e6 / 4 % 2))])) := e12
        have Ld12 := same_lst s12 Ld0
        have Le12 := same_lst s12 Le0
        walk_at "rd"
        exact wall ⟨ev0, hev1, s12, e12, rfl⟩
      · exact wall ⟨1, by decide +kernel, s10, e10, rfl⟩
    rintro σ' H13 ⟨w⟩
    obtain ⟨ev, hev, s13, e13, rfl⟩ := w trivial
    clear w e10 s10 Ld10 Le10
    have Ld13 := same_lst s13 Ld0
    have Le13 := same_lst s13 Le0
    refine ⟨fun σ' H' => Wall (∃ (du : Int) (cal ru : Str), 1 ≤ du ∧ du ≤ 31 ∧ (cal == "" || nameB cal) = true ∧ cal.length ≤ 1000000 ∧ isRuleT ru = true ∧ (ru.length ≤ 1000000 ∧ (cal = "" → ru = "none")) ∧ Same Hb H' ∧ H' p = some (.dK (zK (keysL.take 14) [.str nm, .int (1 + d0), .int ev, .int du, .str cal, .str ru, .str "", .int d5, .int 0, .int 1000000, .str cv, .str md, .str sm, .int (d11 % (1 + d0) * (e6 / 4 % 2))])) ∧ σ' = [some (.int c), some (.str nm), some (.ref pd), some (.ref pe), some (.ref p)]), ?_, ?_⟩
    · obtain ⟨ru0, hru0, hru1, hru2⟩ := ruleF_at (i := d3) (by omega) (by omega)
      obtain ⟨hc0, hc1⟩ := calN e7 (by omega) (by omega)
      walk_at "rd"
      refine iteI (fun c1 => ?_) (fun c1 => ?_)
      · walk_at "rd"
        refine dsetL 3 14 (s13) np (e13) rfl (by decide) (by decide) rfl fun H14 s14 f14 e14 => ?_
        replace e14 : H14 p = some (.dK (zK (keysL.take 14) [.str nm, .int (1 + d0), .int ev, .int (1 + d2), .str "", .str "none", .str "", .int d5, .int 0, .int 1000000, .str cv, .str md, .str sm, .int (d11 % (1 + d0) * (e6 / 4 % 2))])) := e14
        have Ld14 := same_lst s14 Ld0
        have Le14 := same_lst s14 Le0
        walk_at "rd"
        refine ⟨_, ?_, fun _ _ w => w⟩
        walk_at "rd"
        refine iteD (fun c2 => ?_) (fun c2 => ?_)
        · walk_at "rd"
          rename_i q15 nq15
          refine dsetL 5 14 (same_new s14 nq15) np (hp_upd nq15 e14) rfl (by decide) (by decide) rfl fun H16 s16 f16 e16 => ?_
          replace e16 : H16 p = some (.dK (zK (keysL.take 14) [.str nm, .int (1 + d0), .int ev, .int (1 + d2), .str "", .str ru0, .str "", .int d5, .int 0, .int 1000000, .str cv, .str md, .str sm, .int (d11 % (1 + d0) * (e6 / 4 % 2))])) := e16
          have Ld16 := same_lst s16 Ld0
          have Le16 := same_lst s16 Le0
          walk_at "rd"
          refine strI_go (Nat.lt_of_le_of_lt (Nat.log2_le_self _) (by omega)) ?_
          have lc : ("c" : Str).length + (toString e7 : Str).length ≤ sizeLine := by rw [← len_app, sizeLine_eq]; omega
          walk_at "rd"
          refine dsetL 4 14 (s16) np (e16) rfl (by decide) (by decide) rfl fun H17 s17 f17 e17 => ?_
          replace e17 : H17 p = some (.dK (zK (keysL.take 14) [.str nm, .int (1 + d0), .int ev, .int (1 + d2), .str ("c" ++ (toString e7 : Str)), .str ru0, .str "", .int d5, .int 0, .int 1000000, .str cv, .str md, .str sm, .int (d11 % (1 + d0) * (e6 / 4 % 2))])) := e17
          have Ld17 := same_lst s17 Ld0
          have Le17 := same_lst s17 Le0
          walk_at "rd"
          exact wall ⟨1 + d2, _, ru0, by omega, by omega, by rw [hc0, Bool.or_true], hc1, hru1, ⟨hru2, fun z => absurd hc0 (by rw [z]; decide +kernel)⟩, s17, e17, rfl⟩
        · exact wall ⟨1 + d2, "", "none", by omega, by omega, rfl, Nat.le_of_ble_eq_true (by rfl), by decide +kernel, ⟨Nat.le_of_ble_eq_true (by rfl), fun _ => rfl⟩, s14, e14, rfl⟩
      · exact wall ⟨1, "", "none", by omega, by omega, rfl, Nat.le_of_ble_eq_true (by rfl), by decide +kernel, ⟨Nat.le_of_ble_eq_true (by rfl), fun _ => rfl⟩, s13, e13, rfl⟩
    rintro σ' H18 ⟨w⟩
    obtain ⟨du, cal, ru, du0, du1, hcal1, hcal2, hru1, hru2, s18, e18, rfl⟩ := w trivial
    clear w e13 s13 Ld13 Le13
    have Ld18 := same_lst s18 Ld0
    have Le18 := same_lst s18 Le0
    refine ⟨fun σ' H' => Wall (∃ (ix : Str) (lo hi : Int), (ix == "" || nameB ix) = true ∧ 0 ≤ lo ∧ lo ≤ hi ∧ hi ≤ 1000000 ∧ Same Hb H' ∧ H' p = some (.dK (zK (keysL.take 14) [.str nm, .int (1 + d0), .int ev, .int du, .str cal, .str ru, .str ix, .int d5, .int lo, .int hi, .str cv, .str md, .str sm, .int (d11 % (1 + d0) * (e6 / 4 % 2))])) ∧ σ' = [some (.int c), some (.str nm), some (.ref pd), some (.ref pe), some (.ref p)]), ?_, ?_⟩
    · have hx0 := ixN36 e8 (by omega) (by omega)
      walk_at "rd"
      refine iteI (fun c1 => ?_) (fun c1 => ?_)
      · walk_at "rd"
        refine strI_go (Nat.lt_of_le_of_lt (Nat.log2_le_self _) (by omega)) ?_
        have lc : ("x" : Str).length + (toString e8 : Str).length ≤ sizeLine := by rw [← len_app, sizeLine_eq]; have := (nameB_len hx0); omega
        walk_at "rd"
        refine dsetL 6 14 (s18) np (e18) rfl (by decide) (by decide) rfl fun H19 s19 f19 e19 => ?_
        replace e19 : H19 p = some (.dK (zK (keysL.take 14) [.str nm, .int (1 + d0), .int ev, .int du, .str cal, .str ru, .str ("x" ++ (toString e8 : Str)), .int d5, .int 0, .int 1000000, .str cv, .str md, .str sm, .int (d11 % (1 + d0) * (e6 / 4 % 2))])) := e19
        have Ld19 := same_lst s19 Ld0
        have Le19 := same_lst s19 Le0
        walk_at "rd"
        refine ⟨_, ?_, fun _ _ w => w⟩
        walk_at "rd"
        refine iteD (fun c2 => ?_) (fun c2 => ?_)
        · walk_at "rd"
          refine dsetL 8 14 (s19) np (e19) rfl (by decide) (by decide) rfl fun H20 s20 f20 e20 => ?_
          replace e20 : H20 p = some (.dK (zK (keysL.take 14) [.str nm, .int (1 + d0), .int ev, .int du, .str cal, .str ru, .str ("x" ++ (toString e8 : Str)), .int d5, .int (if d7 < d6 then d7 else d6), .int 1000000, .str cv, .str md, .str sm, .int (d11 % (1 + d0) * (e6 / 4 % 2))])) := e20
          have Ld20 := same_lst s20 Ld0
          have Le20 := same_lst s20 Le0
          walk_at "rd"
          refine dsetL 9 14 (s20) np (e20) rfl (by decide) (by decide) rfl fun H21 s21 f21 e21 => ?_
          replace e21 : H21 p = some (.dK (zK (keysL.take 14) [.str nm, .int (1 + d0), .int ev, .int du, .str cal, .str ru, .str ("x" ++ (toString e8 : Str)), .int d5, .int (if d7 < d6 then d7 else d6), .int (if d6 < d7 then d7 else d6), .str cv, .str md, .str sm, .int (d11 % (1 + d0) * (e6 / 4 % 2))])) := e21
          have Ld21 := same_lst s21 Ld0
          have Le21 := same_lst s21 Le0
          walk_at "rd"
          exact wall ⟨_, _, _, by rw [hx0, Bool.or_true], by split <;> omega, by split <;> split <;> omega, by split <;> omega, s21, e21, rfl⟩
        · exact wall ⟨_, 0, 1000000, by rw [hx0, Bool.or_true], by omega, by omega, by omega, s19, e19, rfl⟩
      · exact wall ⟨"", 0, 1000000, rfl, by omega, by omega, by omega, s18, e18, rfl⟩
    rintro σ' H22 ⟨w⟩
    obtain ⟨ix, lo, hi, hix, lo0, lo1, hi1, s22, e22, rfl⟩ := w trivial
    clear w e18 s18 Ld18 Le18
    have Ld22 := same_lst s22 Ld0
    have Le22 := same_lst s22 Le0
    refine ⟨fun σ' H' => Wall (∃ (rt : Int), 0 ≤ rt ∧ rt ≤ 1000000 ∧ Same Hb H' ∧ H' p = some (.dK (zK (keysL.take 14) [.str nm, .int (1 + d0), .int ev, .int du, .str cal, .str ru, .str ix, .int rt, .int lo, .int hi, .str cv, .str md, .str sm, .int (d11 % (1 + d0) * (e6 / 4 % 2))])) ∧ σ' = [some (.int c), some (.str nm), some (.ref pd), some (.ref pe), some (.ref p)]), ?_, ?_⟩
    · obtain ⟨rt0, hrt0, hrt1, hrt2⟩ := four_at (a := 0) (b := 1000000) (c := d5 % 100 * 10000) (d := d5 % 1000 * 100) (i := d6 % 4) (by omega) (by omega) (by omega) (by omega) (by omega) (by omega)
      walk_at "rd"
      refine iteI (fun c1 => ?_) (fun c1 => ?_)
      · walk_at "rd"
        rename_i q23 nq23
        refine dsetL 7 14 (same_new s22 nq23) np (hp_upd nq23 e22) rfl (by decide) (by decide) rfl fun H24 s24 f24 e24 => ?_
        replace e24 : H24 p = some (.dK (zK (keysL.take 14) [.str nm, .int (1 + d0), .int ev, .int du, .str cal, .str ru, .str ix, .int rt0, .int lo, .int hi, .str cv, .str md, .str sm, .int (d11 % (1 + d0) * (e6 / 4 % 2))])) := e24
        have Ld24 := same_lst s24 Ld0
        have Le24 := same_lst s24 Le0
        walk_at "rd"
        exact wall ⟨rt0, hrt1, hrt2, s24, e24, rfl⟩
      · exact wall ⟨d5, (by omega), by omega, s22, e22, rfl⟩
    rintro σ' H25 ⟨w⟩
    obtain ⟨rt, rt0, rt1, s25, e25, rfl⟩ := w trivial
    clear w e22 s22 Ld22 Le22
    have Ld25 := same_lst s25 Ld0
    have Le25 := same_lst s25 Le0
    walk_at "rd"
    refine dputL 14 (s25) np (e25) rfl (by decide) rfl fun H26 s26 f26 e26 => ?_
    replace e26 : H26 p = some (.dK (zK (keysL.take 15) [.str nm, .int (1 + d0), .int ev, .int du, .str cal, .str ru, .str ix, .int rt, .int lo, .int hi, .str cv, .str md, .str sm, .int (d11 % (1 + d0) * (e6 / 4 % 2)), .int (d12 * (e6 / 128 % 2))])) := e26
    have Ld26 := same_lst s26 Ld0
    have Le26 := same_lst s26 Le0
    clear e25 s25 Ld25 Le25 f26
    walk_at "rd"
    refine dputL 15 (s26) np (e26) rfl (by decide) rfl fun H27 s27 f27 e27 => ?_
    replace e27 : H27 p = some (.dK (zK (keysL.take 16) [.str nm, .int (1 + d0), .int ev, .int du, .str cal, .str ru, .str ix, .int rt, .int lo, .int hi, .str cv, .str md, .str sm, .int (d11 % (1 + d0) * (e6 / 4 % 2)), .int (d12 * (e6 / 128 % 2)), .int (d13 * (e6 / 256 % 2))])) := e27
    have Ld27 := same_lst s27 Ld0
    have Le27 := same_lst s27 Le0
    clear e26 s26 Ld26 Le26 f27
    walk_at "rd"
    refine dputL 16 (s27) np (e27) rfl (by decide) rfl fun H28 s28 f28 e28 => ?_
    replace e28 : H28 p = some (.dK (zK (keysL.take 17) [.str nm, .int (1 + d0), .int ev, .int du, .str cal, .str ru, .str ix, .int rt, .int lo, .int hi, .str cv, .str md, .str sm, .int (d11 % (1 + d0) * (e6 / 4 % 2)), .int (d12 * (e6 / 128 % 2)), .int (d13 * (e6 / 256 % 2)), .int (d14 * (e6 / 512 % 2))])) := e28
    have Ld28 := same_lst s28 Ld0
    have Le28 := same_lst s28 Le0
    clear e27 s27 Ld27 Le27 f28
    walk_at "rd"
    refine dputL 17 (s28) np (e28) rfl (by decide) rfl fun H29 s29 f29 e29 => ?_
    replace e29 : H29 p = some (.dK (zK (keysL.take 18) [.str nm, .int (1 + d0), .int ev, .int du, .str cal, .str ru, .str ix, .int rt, .int lo, .int hi, .str cv, .str md, .str sm, .int (d11 % (1 + d0) * (e6 / 4 % 2)), .int (d12 * (e6 / 128 % 2)), .int (d13 * (e6 / 256 % 2)), .int (d14 * (e6 / 512 % 2)), .int (e0 * (e6 / 1024 % 2))])) := e29
    have Ld29 := same_lst s29 Ld0
    have Le29 := same_lst s29 Le0
    clear e28 s28 Ld28 Le28 f29
    walk_at "rd"
    refine dputL 18 (s29) np (e29) rfl (by decide) rfl fun H30 s30 f30 e30 => ?_
    replace e30 : H30 p = some (.dK (zK (keysL.take 19) [.str nm, .int (1 + d0), .int ev, .int du, .str cal, .str ru, .str ix, .int rt, .int lo, .int hi, .str cv, .str md, .str sm, .int (d11 % (1 + d0) * (e6 / 4 % 2)), .int (d12 * (e6 / 128 % 2)), .int (d13 * (e6 / 256 % 2)), .int (d14 * (e6 / 512 % 2)), .int (e0 * (e6 / 1024 % 2)), .int 5])) := e30
    have Ld30 := same_lst s30 Ld0
    have Le30 := same_lst s30 Le0
    clear e29 s29 Ld29 Le29 f30
    walk_at "rd"
    refine ⟨fun σ' H' => Wall (∃ (gr : Int), 0 ≤ gr ∧ gr ≤ 90 ∧ Same Hb H' ∧ H' p = some (.dK (zK (keysL.take 19) [.str nm, .int (1 + d0), .int ev, .int du, .str cal, .str ru, .str ix, .int rt, .int lo, .int hi, .str cv, .str md, .str sm, .int (d11 % (1 + d0) * (e6 / 4 % 2)), .int (d12 * (e6 / 128 % 2)), .int (d13 * (e6 / 256 % 2)), .int (d14 * (e6 / 512 % 2)), .int (e0 * (e6 / 1024 % 2)), .int gr])) ∧ σ' = [some (.int c), some (.str nm), some (.ref pd), some (.ref pe), some (.ref p)]), ?_, ?_⟩
    · walk_at "rd"
      refine iteI (fun c1 => ?_) (fun c1 => ?_)
      · walk_at "rd"
        refine dsetL 18 19 (s30) np (e30) rfl (by decide) (by decide) rfl fun H31 s31 f31 e31 => ?_
        replace e31 : H31 p = some (.dK (zK (keysL.take 19) [.str nm, .int (1 + d0), .int ev, .int du, .str cal, .str ru, .str ix, .int rt, .int lo, .int hi, .str cv, .str md, .str sm, .int (d11 % (1 + d0) * (e6 / 4 % 2)), .int (d12 * (e6 / 128 % 2)), .int (d13 * (e6 / 256 % 2)), .int (d14 * (e6 / 512 % 2)), .int (e0 * (e6 / 1024 % 2)), .int e1])) := e31
        have Ld31 := same_lst s31 Ld0
        have Le31 := same_lst s31 Le0
        walk_at "rd"
        exact wall ⟨e1, (by omega), by omega, s31, e31, rfl⟩
      · exact wall ⟨5, by omega, by omega, s30, e30, rfl⟩
    rintro σ' H32 ⟨w⟩
    obtain ⟨gr, gr0, gr1, s32, e32, rfl⟩ := w trivial
    clear w e30 s30 Ld30 Le30
    have Ld32 := same_lst s32 Ld0
    have Le32 := same_lst s32 Le0
    refine ⟨fun σ' H' => Wall (∃ (g2 : Int), 0 ≤ g2 ∧ g2 ≤ 90 ∧ (0 < e0 * (e6 / 1024 % 2) → g2 < 28 * ev) ∧ Same Hb H' ∧ H' p = some (.dK (zK (keysL.take 19) [.str nm, .int (1 + d0), .int ev, .int du, .str cal, .str ru, .str ix, .int rt, .int lo, .int hi, .str cv, .str md, .str sm, .int (d11 % (1 + d0) * (e6 / 4 % 2)), .int (d12 * (e6 / 128 % 2)), .int (d13 * (e6 / 256 % 2)), .int (d14 * (e6 / 512 % 2)), .int (e0 * (e6 / 1024 % 2)), .int g2])) ∧ σ' = [some (.int c), some (.str nm), some (.ref pd), some (.ref pe), some (.ref p)]), ?_, ?_⟩
    · have evb := every_bd hev
      walk_at "rd"
      refine dgetL 17 19 e32 (by decide) rfl rfl ?_
      walk_at "rd"
      refine iteD (fun c1 => ?_) (fun c1 => ?_)
      · walk_at "rd"
        refine dgetL 18 19 e32 (by decide) rfl rfl ?_
        walk_at "rd"
        refine dgetL 2 19 e32 (by decide) rfl rfl ?_
        walk_at "rd"
        refine dsetL 18 19 (s32) np (e32) rfl (by decide) (by decide) rfl fun H33 s33 f33 e33 => ?_
        replace e33 : H33 p = some (.dK (zK (keysL.take 19) [.str nm, .int (1 + d0), .int ev, .int du, .str cal, .str ru, .str ix, .int rt, .int lo, .int hi, .str cv, .str md, .str sm, .int (d11 % (1 + d0) * (e6 / 4 % 2)), .int (d12 * (e6 / 128 % 2)), .int (d13 * (e6 / 256 % 2)), .int (d14 * (e6 / 512 % 2)), .int (e0 * (e6 / 1024 % 2)), .int (if 28 * ev - 1 < gr then 28 * ev - 1 else gr)])) := e33
        have Ld33 := same_lst s33 Ld0
        have Le33 := same_lst s33 Le0
        walk_at "rd"
        exact wall ⟨_, by split <;> omega, by split <;> omega, fun _ => by split <;> omega, s33, e33, rfl⟩
      · exact wall ⟨gr, gr0, gr1, fun z => absurd z c1, s32, e32, rfl⟩
    rintro σ' H34 ⟨w⟩
    obtain ⟨g2, g20, g21, g22, s34, e34, rfl⟩ := w trivial
    clear w e32 s32 Ld32 Le32
    have Ld34 := same_lst s34 Ld0
    have Le34 := same_lst s34 Le0
    walk_at "rd"
    refine dputL 19 (s34) np (e34) rfl (by decide) rfl fun H35 s35 f35 e35 => ?_
    replace e35 : H35 p = some (.dK (zK (keysL.take 20) [.str nm, .int (1 + d0), .int ev, .int du, .str cal, .str ru, .str ix, .int rt, .int lo, .int hi, .str cv, .str md, .str sm, .int (d11 % (1 + d0) * (e6 / 4 % 2)), .int (d12 * (e6 / 128 % 2)), .int (d13 * (e6 / 256 % 2)), .int (d14 * (e6 / 512 % 2)), .int (e0 * (e6 / 1024 % 2)), .int g2, .int (e2 * (e6 / 4096 % 2))])) := e35
    have Ld35 := same_lst s35 Ld0
    have Le35 := same_lst s35 Le0
    clear e34 s34 Ld34 Le34 f35
    walk_at "rd"
    refine dputL 20 (s35) np (e35) rfl (by decide) rfl fun H36 s36 f36 e36 => ?_
    replace e36 : H36 p = some (.dK (zK (keysL.take 21) [.str nm, .int (1 + d0), .int ev, .int du, .str cal, .str ru, .str ix, .int rt, .int lo, .int hi, .str cv, .str md, .str sm, .int (d11 % (1 + d0) * (e6 / 4 % 2)), .int (d12 * (e6 / 128 % 2)), .int (d13 * (e6 / 256 % 2)), .int (d14 * (e6 / 512 % 2)), .int (e0 * (e6 / 1024 % 2)), .int g2, .int (e2 * (e6 / 4096 % 2)), .int (e3 * (e6 / 8192 % 2))])) := e36
    have Ld36 := same_lst s36 Ld0
    have Le36 := same_lst s36 Le0
    clear e35 s35 Ld35 Le35 f36
    walk_at "rd"
    have ob := bitmul (a := e4) (n := 6) (by omega) (by omega) (b := e6 / 16384 % 2) (by omega) (by omega)
    refine _law_order_go ob.1 ob.2 fun po Ho so eo => ?_
    have Ldo := same_lst so Ld36
    have Leo := same_lst so Le36
    walk_at "rd"
    refine dputL 21 (s36.trans so) np (so _ _ e36) rfl (by decide) rfl fun H37 s37 f37 e37 => ?_
    replace e37 : H37 p = some (.dK (zK (keysL.take 22) [.str nm, .int (1 + d0), .int ev, .int du, .str cal, .str ru, .str ix, .int rt, .int lo, .int hi, .str cv, .str md, .str sm, .int (d11 % (1 + d0) * (e6 / 4 % 2)), .int (d12 * (e6 / 128 % 2)), .int (d13 * (e6 / 256 % 2)), .int (d14 * (e6 / 512 % 2)), .int (e0 * (e6 / 1024 % 2)), .int g2, .int (e2 * (e6 / 4096 % 2)), .int (e3 * (e6 / 8192 % 2)), .ref po])) := e37
    have Ld37 := same_lst s37 Ld0
    have Le37 := same_lst s37 Le0
    walk_at "rd"
    have npo : po ≠ p := fun z => by rw [z, so _ _ e36] at eo; cases eo
    have eo2 := (f37 po npo).trans eo
    refine dputL 22 (s37) np (e37) rfl (by decide) rfl fun H38 s38 f38 e38 => ?_
    replace e38 : H38 p = some (.dK (zK (keysL.take 23) [.str nm, .int (1 + d0), .int ev, .int du, .str cal, .str ru, .str ix, .int rt, .int lo, .int hi, .str cv, .str md, .str sm, .int (d11 % (1 + d0) * (e6 / 4 % 2)), .int (d12 * (e6 / 128 % 2)), .int (d13 * (e6 / 256 % 2)), .int (d14 * (e6 / 512 % 2)), .int (e0 * (e6 / 1024 % 2)), .int g2, .int (e2 * (e6 / 4096 % 2)), .int (e3 * (e6 / 8192 % 2)), .ref po, .int (e5 * (e6 / 32768 % 2))])) := e38
    have Ld38 := same_lst s38 Ld0
    have Le38 := same_lst s38 Le0
    walk_at "rd"
    have eo3 := (f38 po npo).trans eo2
    have evb := every_bd hev
    have op := ord_ok ob.1 ob.2
    have x1 := bitmul (a := d12) (n := 1000000000001) (by omega) (by omega) (b := e6 / 128 % 2) (by omega) (by omega)
    have x2 := bitmul (a := d13) (n := 1001) (by omega) (by omega) (b := e6 / 256 % 2) (by omega) (by omega)
    have x3 := bitmul (a := d14) (n := 1000000000001) (by omega) (by omega) (b := e6 / 512 % 2) (by omega) (by omega)
    have x6 := bitmul (a := e2) (n := 1001) (by omega) (by omega) (b := e6 / 4096 % 2) (by omega) (by omega)
    have x7 := bitmul (a := e3) (n := 481) (by omega) (by omega) (b := e6 / 8192 % 2) (by omega) (by omega)
    have x4 := bitmul (a := e0) (n := 1000000000001) (by omega) (by omega) (b := e6 / 1024 % 2) (by omega) (by omega)
    have x8 := bitmul (a := e5) (n := 1000001) (by omega) (by omega) (b := e6 / 32768 % 2) (by omega) (by omega)
    have x5 := bitmul hm0 hm1 (b := e6 / 4 % 2) (by omega) (by omega)
    refine q p H38 ⟨nm, 1 + d0, ev, du, cal, ru, ix, rt, lo, hi, cv, md, sm, d11 % (1 + d0) * (e6 / 4 % 2), d12 * (e6 / 128 % 2), d13 * (e6 / 256 % 2), d14 * (e6 / 512 % 2), e0 * (e6 / 1024 % 2), g2, e2 * (e6 / 4096 % 2), e3 * (e6 / 8192 % 2), po, e5 * (e6 / 32768 % 2)⟩ (ordOf (e4 * (e6 / 16384 % 2))) (sHb.trans s38) (sameZ sHb np) ⟨e38, eo3, ?_, hcal2, hru2.1, hcv2, hmd2, hsm2, op.2.1, op.2.2⟩ ⟨rfl, hru2.2⟩
    refine termErr_ok hnm (show 1 ≤ 1 + d0 ∧ 1 + d0 ≤ 480 by omega) hev ⟨du0, du1⟩ hcal1 hru1 hix ⟨rt0, rt1⟩ (show 0 ≤ lo ∧ lo ≤ 1000000 by omega) (show 0 ≤ hi ∧ hi ≤ 1000000 by omega) hcv1 hmd1 hsm1 (show 0 ≤ d11 % (1 + d0) * (e6 / 4 % 2) ∧ d11 % (1 + d0) * (e6 / 4 % 2) ≤ 479 by omega) ?_ op.1 (show 0 ≤ e5 * (e6 / 32768 % 2) ∧ e5 * (e6 / 32768 % 2) ≤ 1000000 by omega) ?_
    · show btw (d12 * (e6 / 128 % 2)) _ _ (btw (d13 * (e6 / 256 % 2)) _ _ (btw (d14 * (e6 / 512 % 2)) _ _ (btw (e0 * (e6 / 1024 % 2)) _ _ (btw g2 _ _ (btw (e2 * (e6 / 4096 % 2)) _ _ (btw (e3 * (e6 / 8192 % 2)) _ _ none)))))) = none
      rw [btw_t (by omega) (by omega), btw_t (by omega) (by omega), btw_t (by omega) (by omega), btw_t (by omega) (by omega), btw_t (by omega) (by omega), btw_t (by omega) (by omega), btw_t (by omega) (by omega)]
    · show (if 1 + d0 ≤ d11 % (1 + d0) * (e6 / 4 % 2) then _ else if hi < lo then _ else if 0 < e0 * (e6 / 1024 % 2) ∧ 28 * ev ≤ g2 then _ else none) = none
      rw [if_neg (by omega), if_neg (by omega), if_neg (fun z => by have := g22 z.1; omega)]
theorem _law_fields_go {H : Hp} {Q : VK} {E : XK} {c : Int} {nm : Str} (h1 : Sz 1048590 c) (h2 : nameB nm = true) (q : ∀ p H' t os, Same H H' → H p = none → TermD H' p t os → (t.name = nm ∧ (t.cal = "" → t.rule = "none")) → Q (.ref p) H') : sp__law_fields [.int c, .str nm] H Q E := by
  unfold sp__law_fields
  exact ⟨c, nm, rfl, h1, h2, q⟩

/-! ### _law_terms -/
@[irreducible] def sp__law_terms (T : Txt w K mg) : Sp := fun vs H Q E => ∃ (p : Addr) (t : TM) (os : List Str), vs = [.ref p] ∧ TermD H p t os ∧ (∀ c H', Same H H' → H c = none → TermsAt K T.c_Terms H' c t os → Q (.ref c) H')
theorem ok__law_terms (T : Txt w K mg) : FnOk P w K mg base (L2.CX P w) 9 T.a__law_terms T.fd__law_terms ["f"] (sp__law_terms T) := by
  refine T.F__law_terms.ok sc__law_terms (fun vs H Q E h => ?_) (fun cdv A outer s H vs Q E hr h => ?_)
  · unfold sp__law_terms at h
    obtain ⟨p, t, os, rfl, _⟩ := h
    rfl
  · unfold sp__law_terms at h
    obtain ⟨p, t, os, rfl, g, q⟩ := h
    refine ⟨_, (pss_one (ps_ret (pe_makeKX T.mk_Terms (ok_Terms___init__ T) (hr.mono (by decide)) rfl T.m_Terms (kb_Terms_1 T).choose_spec (fun σ => passAt (takes_of rfl rfl rfl rfl) σ) (pk_cons (pe_dget (hu_of hr) (pv 0) pe_str (fun _ _ => rfl)) (pk_cons (pe_dget (hu_of hr) (pv 0) pe_str (fun _ _ => rfl)) (pk_cons (pe_dget (hu_of hr) (pv 0) pe_str (fun _ _ => rfl)) (pk_cons (pe_dget (hu_of hr) (pv 0) pe_str (fun _ _ => rfl)) (pk_cons (pe_dget (hu_of hr) (pv 0) pe_str (fun _ _ => rfl)) (pk_cons (pe_dget (hu_of hr) (pv 0) pe_str (fun _ _ => rfl)) (pk_cons (pe_dget (hu_of hr) (pv 0) pe_str (fun _ _ => rfl)) (pk_cons (pe_dget (hu_of hr) (pv 0) pe_str (fun _ _ => rfl)) (pk_cons (pe_dget (hu_of hr) (pv 0) pe_str (fun _ _ => rfl)) (pk_cons (pe_dget (hu_of hr) (pv 0) pe_str (fun _ _ => rfl)) (pk_cons (pe_dget (hu_of hr) (pv 0) pe_str (fun _ _ => rfl)) (pk_cons (pe_dget (hu_of hr) (pv 0) pe_str (fun _ _ => rfl)) (pk_cons (pe_dget (hu_of hr) (pv 0) pe_str (fun _ _ => rfl)) (pk_cons (pe_dget (hu_of hr) (pv 0) pe_str (fun _ _ => rfl)) (pk_cons (pe_dget (hu_of hr) (pv 0) pe_str (fun _ _ => rfl)) (pk_cons (pe_dget (hu_of hr) (pv 0) pe_str (fun _ _ => rfl)) (pk_cons (pe_dget (hu_of hr) (pv 0) pe_str (fun _ _ => rfl)) (pk_cons (pe_dget (hu_of hr) (pv 0) pe_str (fun _ _ => rfl)) (pk_cons (pe_dget (hu_of hr) (pv 0) pe_str (fun _ _ => rfl)) (pk_cons (pe_dget (hu_of hr) (pv 0) pe_str (fun _ _ => rfl)) (pk_cons (pe_dget (hu_of hr) (pv 0) pe_str (fun _ _ => rfl)) (pk_cons (pe_dget (hu_of hr) (pv 0) pe_str (fun _ _ => rfl)) (pk_cons (pe_dget (hu_of hr) (pv 0) pe_str (fun _ _ => rfl)) pk_nil)))))))))))))))))))))))))), ?_⟩
    walk_at "rd"
    refine g.get 0 rfl rfl ?_
    walk_at "rd"
    refine g.get 1 rfl rfl ?_
    walk_at "rd"
    refine g.get 2 rfl rfl ?_
    walk_at "rd"
    refine g.get 3 rfl rfl ?_
    walk_at "rd"
    refine g.get 4 rfl rfl ?_
    walk_at "rd"
    refine g.get 5 rfl rfl ?_
    walk_at "rd"
    refine g.get 6 rfl rfl ?_
    walk_at "rd"
    refine g.get 7 rfl rfl ?_
    walk_at "rd"
    refine g.get 8 rfl rfl ?_
    walk_at "rd"
    refine g.get 9 rfl rfl ?_
    walk_at "rd"
    refine g.get 10 rfl rfl ?_
    walk_at "rd"
    refine g.get 11 rfl rfl ?_
    walk_at "rd"
    refine g.get 12 rfl rfl ?_
    walk_at "rd"
    refine g.get 13 rfl rfl ?_
    walk_at "rd"
    refine g.get 14 rfl rfl ?_
    walk_at "rd"
    refine g.get 15 rfl rfl ?_
    walk_at "rd"
    refine g.get 16 rfl rfl ?_
    walk_at "rd"
    refine g.get 17 rfl rfl ?_
    walk_at "rd"
    refine g.get 18 rfl rfl ?_
    walk_at "rd"
    refine g.get 19 rfl rfl ?_
    walk_at "rd"
    refine g.get 20 rfl rfl ?_
    walk_at "rd"
    refine g.get 21 rfl rfl ?_
    walk_at "rd"
    refine g.get 22 rfl rfl ?_
    walk_at "rd"
    refine new_terms T (t := t) (fun _ => rfl) (t_of g.ord) (term_name g.good) g.cal g.rule (term_index g.good) g.conv g.mode g.scheme g.few g.oks (fun H' _ => by rw [g.good]; exact fun _ _ _ _ => trivial) fun c H' s nc St => ?_
    exact q c H' s nc St
theorem _law_terms_go (T : Txt w K mg) {H : Hp} {Q : VK} {E : XK} {p : Addr} {t : TM} {os : List Str} (g : TermD H p t os) (q : ∀ c H', Same H H' → H c = none → TermsAt K T.c_Terms H' c t os → Q (.ref c) H') : sp__law_terms T [.ref p] H Q E := by
  unfold sp__law_terms
  exact ⟨p, t, os, rfl, g, q⟩

/-! ### _law_rate -/
def stpN : Nat → Str → Str
  | 0, z => z
  | n + 1, z => stp (stpN n z)
theorem stp_len (z : Str) : (stp z).length ≤ z.length := by
  show ((stpL z.cps.toList).toArray).size ≤ z.cps.toList.length
  rw [List.size_toArray]
  unfold stpL
  split
  · rw [List.length_dropLast]; omega
  · exact Nat.le_refl _
theorem stpN_len (z : Str) : ∀ n, (stpN n z).length ≤ z.length
  | 0 => Nat.le_refl _
  | n + 1 => Nat.le_trans (stp_len _) (stpN_len z n)
theorem stp_cut {z : Str} (h : 0 < z.length) (c : z.cps.toList[z.length - 1]? = some 48) : cutS z none (some (((z.length : Nat) : Int) - 1)) = stp z := by
  refine str_ext ?_
  unfold stp stpL
  rw [if_pos (by rw [List.getLast?_eq_getElem?]; exact c)]
  show (z.cps.toList.drop 0).take (HT.sIx z.length z.length (some (((z.length : Nat) : Int) - 1)) - 0) = z.cps.toList.dropLast
  have e : HT.sIx z.length z.length (some (((z.length : Nat) : Int) - 1)) = z.length - 1 := by
    have : (((z.length : Nat) : Int) - 1) = ((z.length - 1 : Nat) : Int) := by omega
    rw [this, HT.sIx_nat]
    omega
  rw [e, List.drop_zero, Nat.sub_zero, List.dropLast_eq_take]
  rfl
theorem stp_stay {z : Str} (c : z.cps.toList[z.length - 1]? ≠ some 48) : stp z = z := by
  refine str_ext ?_
  unfold stp stpL
  rw [if_neg (by rw [List.getLast?_eq_getElem?]; exact c)]
theorem stp_nil {z : Str} (h : z.length = 0) : stp z = z := by
  refine stp_stay ?_
  have : z.cps.toList = [] := List.eq_nil_of_length_eq_zero h
  rw [this]
  exact fun q => by cases q
@[irreducible] def sp__law_rate : Sp := fun vs H Q E => ∃ (n : Int), vs = [.int n] ∧ 0 ≤ n ∧ n ≤ 1000000 ∧ Q (.str (pct n)) H
theorem ok__law_rate (T : Txt w K mg) : FnOk P w K mg base (L2.CX P w) 1 T.a__law_rate T.fd__law_rate ["rate"] sp__law_rate := by
  refine T.F__law_rate.ok sc__law_rate (fun vs H Q E h => ?_) (fun cdv A outer s H vs Q E hr h => ?_)
  · unfold sp__law_rate at h
    obtain ⟨n, rfl, _⟩ := h
    rfl
  · unfold sp__law_rate at h
    obtain ⟨n, rfl, n0, n1, q⟩ := h
    refine ⟨_, (pss_cons (ps_set (i := 1) sc__law_rate.nd rfl (Or.inl rfl) (pe_slice sl_ss (pe_callTy call_strI rfl T.z_str bt_str (pa_cons (pe_op op_add pe_int (pe_op op_mod (pe_callTy call_int1 rfl T.z_int bt_int (pa_cons (pv 0) pa_nil)) pe_int)) pa_nil)) (po_some pe_int) po_none))
    (pss_cons (ps_for (passes_of rfl) rfl (pi_range1 rfl T.z_range (pa_cons pe_int pa_nil)) (pg_name (i := 2) sc__law_rate.nd rfl (Or.inl rfl))
      (pss_one (ps_cut (ps_if (PW.pt (pw_and (pt_cmpR op_gt (pe_callB call_lenS rfl T.z_len bt_len (pa_cons (pv 1) pa_nil)) pe_int (nomark _)) (pw_and1 (pt_cmpR op_eq (pe_ix ix_ss (pv 1) (pe_op op_sub (pe_callB call_lenS rfl T.z_len bt_len (pa_cons (pv 1) pa_nil)) pe_int) (fun _ _ => rfl)) pe_str (nomark _))))) (pss_one (ps_set (i := 1) sc__law_rate.nd rfl (Or.inl rfl) (pe_slice sl_ss (pv 1) po_none (po_some (pe_op op_sub (pe_callB call_lenS rfl T.z_len bt_len (pa_cons (pv 1) pa_nil)) pe_int))))) pss_nil))))
    (pss_cons (ps_if (pt_cmpR op_gt (pe_callB call_lenS rfl T.z_len bt_len (pa_cons (pv 1) pa_nil)) pe_int (nomark _)) (pss_one (ps_ret (pe_op op_addS (pe_op op_addS (pe_op op_addS (pe_callTy call_strI rfl T.z_str bt_str (pa_cons (pe_op op_fdivB (pv 0) pe_int) pa_nil)) pe_str) (pv 1)) pe_str))) pss_nil)
    (pss_one (ps_ret (pe_op op_addS (pe_callTy call_strI rfl T.z_str bt_str (pa_cons (pe_op op_fdivB (pv 0) pe_int) pa_nil)) pe_str)))))), ?_⟩
    have r1 : 0 ≤ n % 10000 ∧ n % 10000 < 10000 := by omega
    walk_at "rd"
    refine strI_go (log_ok (by omega)) ?_
    have l1 : (toString (10000 + n % 10000) : Str).length ≤ sizeLine := (LL.int (i := 10000 + n % 10000) (by omega)).sz (by decide)
    walk_at "rd"
    obtain ⟨z0, hz0⟩ : ∃ z0, z0 = cutS (toString (10000 + n % 10000)) (some 1) none := ⟨_, rfl⟩
    have lz0 : z0.length = 4 := by rw [hz0, ← (spec4 r1).1]; exact (spec4 r1).2
    refine ⟨by decide, by decide, for_range (n := 4) (fun k σ H' => Wall (H' = H ∧ ∃ u, σ = [some (.int n), some (.str (stpN k z0)), u])) (wall ⟨rfl, _, by rw [hz0]; rfl⟩) ?_ ?_⟩
    · rintro k σ H' hk ⟨w1⟩
      obtain ⟨rfl, u, rfl⟩ := w1 trivial
      have ln := stpN_len z0 k
      obtain ⟨z, hz⟩ : ∃ z, z = stpN k z0 := ⟨_, rfl⟩
      rw [← hz]
      rw [← hz] at ln
      have lz : z.length ≤ sizeLine := by rw [sizeLine_eq]; omega
      refine ⟨fun σ' H'' => Wall (H'' = H' ∧ ∃ u, σ' = [some (.int n), some (.str (stp z)), u]), ?_, ?_⟩
      · walk_at "rd"
        refine iteD (fun c => ?_) (fun c => ?_)
        · have c : (0 : Int) < (z.length : Nat) := c
          obtain ⟨cc, hc1, hc2, hc3⟩ := atI_txt (z := z) (i := (z.length : Nat) - 1) (z.length - 1) (by omega) (by omega)
          walk_at "rd"
          by_cases e : cc = 48
          · subst e
            walk_at "rd"
            rw [stp_cut (by omega) hc1]
            exact wall ⟨rfl, _, rfl⟩
          · have e2 : (⟨#[cc]⟩ : Str) ≠ "0" := fun q => by
              have := congrArg (fun s : Str => s.cps.toList) q
              have h0 : ("0" : Str).cps.toList = [48] := by decide +kernel
              rw [h0] at this
              exact e (List.cons.inj this).1
            refine iteS (fun q => absurd q e2) (fun _ => ?_)
            rw [stp_stay (by rw [hc1]; exact fun q => e (Option.some.inj q))]
            exact wall ⟨rfl, _, rfl⟩
        · have c : ¬ (0 : Int) < (z.length : Nat) := c
          rw [stp_nil (by omega)]
          exact wall ⟨rfl, _, rfl⟩
      · rintro σ' H'' ⟨w1⟩
        obtain ⟨rfl, u, rfl⟩ := w1 trivial
        exact wall ⟨rfl, u, by rw [hz]; rfl⟩
    rintro σ H' ⟨w1⟩
    obtain ⟨rfl, u, rfl⟩ := w1 trivial
    have ep : stpN 4 z0 = pctD n := by rw [pctD_stp, hz0]; rfl
    rw [ep]
    have lp := pctD_len (r := n)
    have lpS : (pctD n).length ≤ sizeLine := by rw [sizeLine_eq]; omega
    have l4 : LL 4 (pctD n) := ⟨lp⟩
    walk_at "rd"
    refine iteD (fun c => ?_) (fun c => ?_)
    · have c : (0 : Int) < ((pctD n).length : Nat) := c
      rw [pct_n (fun q => by rw [q] at c; revert c; decide +kernel)] at q
      walk_at "rd"
      refine strI_go (log_ok (by omega)) ?_
      walk_at "rd"
      exact q
    · have c : ¬ (0 : Int) < ((pctD n).length : Nat) := c
      rw [pct_e (str_ext (List.eq_nil_of_length_eq_zero (show (pctD n).cps.toList.length = 0 by rw [LB.len_list]; omega)))] at q
      walk_at "rd"
      refine strI_go (log_ok (by omega)) ?_
      walk_at "rd"
      exact q
theorem _law_rate_go {H : Hp} {Q : VK} {E : XK} {n : Int} (h0 : 0 ≤ n) (h1 : n ≤ 1000000) (q : Q (.str (pct n)) H) : sp__law_rate [.int n] H Q E := by
  unfold sp__law_rate
  exact ⟨n, rfl, h0, h1, q⟩

/-! ### _law_money -/
@[irreducible] def sp__law_money : Sp := fun vs H Q E => ∃ (n : Int), vs = [.int n] ∧ -10000000000000000 < n ∧ n < 10000000000000000 ∧ Q (.str (amt n)) H
theorem ok__law_money (T : Txt w K mg) : FnOk P w K mg base (L2.CX P w) 1 T.a__law_money T.fd__law_money ["cents"] sp__law_money := by
  refine T.F__law_money.ok sc__law_money (fun vs H Q E h => ?_) (fun cdv A outer s H vs Q E hr h => ?_)
  · unfold sp__law_money at h
    obtain ⟨n, rfl, _⟩ := h
    rfl
  · unfold sp__law_money at h
    obtain ⟨n, rfl, n0, n1, q⟩ := h
    refine ⟨_, (pss_cons (ps_set (i := 1) sc__law_money.nd rfl (Or.inl rfl) pe_str)
    (pss_cons (ps_cut (ps_if (pt_cmpR op_lt (pv 0) pe_int (nomark _)) (pss_cons (ps_set (i := 1) sc__law_money.nd rfl (Or.inl rfl) pe_str)
      (pss_one (ps_set (i := 0) sc__law_money.nd rfl (Or.inl rfl) (pe_un un_neg (pv 0))))) pss_nil))
    (pss_cons (ps_set (i := 2) sc__law_money.nd rfl (Or.inl rfl) (pe_callTy call_strI rfl T.z_str bt_str (pa_cons (pe_op op_mod (pe_callTy call_int1 rfl T.z_int bt_int (pa_cons (pv 0) pa_nil)) pe_int) pa_nil)))
    (pss_cons (ps_cut (ps_if (pt_cmpR op_lt (pe_callB call_lenS rfl T.z_len bt_len (pa_cons (pv 2) pa_nil)) pe_int (nomark _)) (pss_one (ps_set (i := 2) sc__law_money.nd rfl (Or.inl rfl) (pe_op op_addS pe_str (pv 2)))) pss_nil))
    (pss_one (ps_ret (pe_op op_addS (pe_op op_addS (pe_op op_addS (pv 1) (pe_callTy call_strI rfl T.z_str bt_str (pa_cons (pe_op op_fdivB (pv 0) pe_int) pa_nil))) pe_str) (pv 2)))))))), ?_⟩
    obtain ⟨sg, c, h0, h1, e⟩ : ∃ (sg : Str) (c : Int), 0 ≤ c ∧ c < 10000000000000000 ∧ amt n = sg ++ amt c := by
      by_cases k : n < 0
      · exact ⟨"-", -n, by omega, by omega, amt_neg k⟩
      · exact ⟨"", n, by omega, by omega, by rw [show ("" : Str) ++ amt n = amt n from emp_app _]⟩
    walk_at "rd"
    refine ⟨fun σ' H' => Wall (∃ (sg : Str) (c : Int), H' = H ∧ σ' = [some (.int c), some (.str sg), none] ∧ 0 ≤ c ∧ c < 10000000000000000 ∧ LL 1 sg ∧ amt n = sg ++ amt c), ?_, ?_⟩
    · walk_at "rd"
      refine iteD (fun k => ?_) (fun k => ?_)
      · have k : n < 0 := k
        walk_at "rd"
        exact wall ⟨"-", -n, rfl, rfl, by omega, by omega, LL.lit (by decide +kernel), amt_neg k⟩
      · have k : ¬ n < 0 := k
        exact wall ⟨"", n, rfl, rfl, by omega, by omega, LL.lit (by decide +kernel), by rw [show ("" : Str) ++ amt n = amt n from emp_app _]⟩
    clear h0 h1 e c sg
    rintro σ' H' ⟨w1⟩
    obtain ⟨sg, c, rfl, rfl, h0, h1, ls, e⟩ := w1 trivial
    have r1 : 0 ≤ c % 100 ∧ c % 100 < 100 := by omega
    walk_at "rd"
    refine strI_go (log_ok (by omega)) ?_
    have l1 : (toString (c % 100) : Str).length ≤ sizeLine := (LL.int (i := c % 100) (by omega)).sz (by decide)
    walk_at "rd"
    refine ⟨fun σ' H2 => Wall (H2 = H' ∧ σ' = [some (.int c), some (.str sg), some (.str (twoT (c % 100)))]), ?_, ?_⟩
    · unfold twoT
      walk_at "rd"
      refine iteD (fun k => ?_) (fun k => ?_)
      · have k : ((toString (c % 100) : Str).length : Int) < 2 := k
        rw [if_pos (by omega)]
        walk_at "rd"
        exact wall ⟨rfl, rfl⟩
      · have k : ¬ ((toString (c % 100) : Str).length : Int) < 2 := k
        rw [if_neg (by omega)]
        exact wall ⟨rfl, rfl⟩
    rintro σ' H2 ⟨w1⟩
    obtain ⟨rfl, rfl⟩ := w1 trivial
    have t2 : LL 2 (twoT (c % 100)) := ⟨Nat.le_of_eq (two_len r1)⟩
    walk_at "rd"
    refine strI_go (log_ok (by omega)) ?_
    walk_at "rd"
    rw [e, amt_pos h0] at q
    rw [appA, appA]
    rw [appA] at q
    exact q
theorem _law_money_go {H : Hp} {Q : VK} {E : XK} {n : Int} (h0 : -10000000000000000 < n) (h1 : n < 10000000000000000) (q : Q (.str (amt n)) H) : sp__law_money [.int n] H Q E := by
  unfold sp__law_money
  exact ⟨n, rfl, h0, h1, q⟩

/-! ### _law_clauses -/
/-- the rows so far: as the lists, D the list of them -/
structure Rws (H : Hp) (D : Addr) (as : List Addr) (rows : List (List Str)) : Prop where
  at_ : H D = some (.lst (as.map V.ref))
  len : as.length = rows.length
  row : ∀ (i : Nat) (a : Addr) (r : List Str), as[i]? = some a → rows[i]? = some r → a ≠ D ∧ H a = some (.lst (r.map V.str))
theorem Rws.same {H H' : Hp} {D : Addr} {as : List Addr} {rows : List (List Str)} (s : Same H H') (L : Rws H D as rows) : Rws H' D as rows := ⟨s _ _ L.at_, L.len, fun i a r h1 h2 => ⟨(L.row i a r h1 h2).1, s _ _ (L.row i a r h1 h2).2⟩⟩
theorem row_app {H0 H : Hp} {D b : Addr} {as : List Addr} {rows : List (List Str)} {row : List Str} {Q : VK} (s : Same H0 H) (nD : H0 D = none) (L : Rws H D as rows) (eb : H b = some (.lst (row.map V.str))) (nb : b ≠ D) (hl : rows.length < 1000)
    (q : ∀ H', Same H0 H' → Rws H' D (as ++ [b]) (rows ++ [row]) → Q .non H') : rApp (.ref D) [.ref b] H Q := by
  refine app_go L.at_ (by rw [List.length_map, L.len, sizeLine_eq]; omega) (q _ (same_set s nD) ⟨by rw [upd_same, List.map_append]; rfl, by rw [List.length_append, List.length_append, L.len]; rfl, fun i a r h1 h2 => ?_⟩)
  by_cases c : i < as.length
  · rw [List.getElem?_append_left c] at h1
    rw [List.getElem?_append_left (by rw [← L.len]; exact c)] at h2
    obtain ⟨k1, k2⟩ := L.row i a r h1 h2
    exact ⟨k1, by rw [upd_ne k1]; exact k2⟩
  · have hi : i = as.length := by
      have := (List.getElem?_eq_some_iff.mp h1).1
      rw [List.length_append] at this
      simp at this
      omega
    subst hi
    rw [List.getElem?_append_right (Nat.le_refl _), Nat.sub_self] at h1
    rw [L.len, List.getElem?_append_right (Nat.le_refl _), Nat.sub_self] at h2
    cases h1
    cases h2
    exact ⟨nb, by rw [upd_ne nb]; exact eb⟩
theorem frs_app {H : Hp} {as : List Addr} {b : Addr} (h : ∀ a ∈ as, H a = none) (hb : H b = none) : ∀ a ∈ as ++ [b], H a = none := fun a ha => (List.mem_append.mp ha).elim (h a) fun e => by rw [List.mem_singleton.mp e]; exact hb
theorem rowsN_lenC {w : Bool} {t : TM} {os : List Str} {k : Nat} : (rowsN w t os k).length ≤ 12 := by
  unfold rowsN
  have h1 := List.length_filterMap_le (id : Option (List Str) → Option (List Str)) ((clW w t os).take k)
  rw [List.length_take] at h1
  have : (clW w t os).length = 12 := rfl
  omega
@[irreducible] def sp__law_clauses (K : PySem.W.Frag) : Sp := fun vs H Q E => ∃ (p : Addr) (w : Bool) (t : TM) (os : List Str), vs = [.ref p, .bl w] ∧ TermD H p t os ∧ (∀ D as H', Same H H' → H D = none → Rws H' D as (rowsN w t os 12) → (∀ a ∈ as, H a = none) → Q (.ref D) H')
theorem ok__law_clauses (T : Txt w K mg) : FnOk P w K mg base (L2.CX P w) 2 T.a__law_clauses T.fd__law_clauses ["f", "whole"] (sp__law_clauses K) := by
  refine T.F__law_clauses.ok sc__law_clauses (fun vs H Q E h => ?_) (fun cdv A outer s H vs Q E hr h => ?_)
  · unfold sp__law_clauses at h
    obtain ⟨p, w, t, os, rfl, _⟩ := h
    rfl
  · unfold sp__law_clauses at h
    obtain ⟨p, w, t, os, rfl, g, q⟩ := h
    refine ⟨_, (pss_cons (ps_set (i := 2) sc__law_clauses.nd rfl (Or.inl rfl) (pe_lst (pa_cons (pe_lst (pa_cons pe_str (pa_cons (pe_callTy call_strI rfl T.z_str bt_str (pa_cons (pe_dget (hu_of hr) (pv 0) pe_str (fun _ _ => rfl)) pa_nil)) (pa_cons (pe_dget (hu_of hr) (pv 0) pe_str (fun _ _ => rfl)) pa_nil)))) pa_nil)))
    (pss_cons (ps_cut (ps_if (pt_cmpR op_gt (pe_dget (hu_of hr) (pv 0) pe_str (fun _ _ => rfl)) pe_int (nomark _)) (pss_one (ps_asg (pe_op op_ct (pe_ix ix_list (pv 2) pe_int (fun _ _ => rfl)) (pe_lst (pa_cons pe_str (pa_cons (pe_callTy call_strI rfl T.z_str bt_str (pa_cons (pe_dget (hu_of hr) (pv 0) pe_str (fun _ _ => rfl)) pa_nil)) pa_nil)))) (pg_sub (pv 2) pe_int set_li))) pss_nil))
    (pss_cons (ps_cut (ps_if (PW.pt (pw_or (pt_val (pv 1)) (pw_or1 (pt_cmpR op_ne (pe_dget (hu_of hr) (pv 0) pe_str (fun _ _ => rfl)) pe_int (nomark _))))) (pss_one (ps_expr (pe_bm PySem.F.plainAttrs_list PySem.F.slot_list_append PySem.F.type_list_append mt_app (pv 2) (pa_cons (pe_lst (pa_cons pe_str (pa_cons (pe_callTy call_strI rfl T.z_str bt_str (pa_cons (pe_dget (hu_of hr) (pv 0) pe_str (fun _ _ => rfl)) pa_nil)) (pa_cons pe_str pa_nil)))) pa_nil)))) pss_nil))
    (pss_cons (ps_cut (ps_if (pt_cmpR op_ne (pe_dget (hu_of hr) (pv 0) pe_str (fun _ _ => rfl)) pe_str (nomark _)) (pss_one (ps_expr (pe_bm PySem.F.plainAttrs_list PySem.F.slot_list_append PySem.F.type_list_append mt_app (pv 2) (pa_cons (pe_lst (pa_cons pe_str (pa_cons pe_str (pa_cons (pe_callTy call_strI rfl T.z_str bt_str (pa_cons (pe_dget (hu_of hr) (pv 0) pe_str (fun _ _ => rfl)) pa_nil)) (pa_cons (pe_dget (hu_of hr) (pv 0) pe_str (fun _ _ => rfl)) (pa_cons (pe_dget (hu_of hr) (pv 0) pe_str (fun _ _ => rfl)) pa_nil)))))) pa_nil)))) (pss_one (ps_cut (ps_if (PW.pt (pw_or (pt_val (pv 1)) (pw_or1 (pt_cmpR op_ne (pe_dget (hu_of hr) (pv 0) pe_str (fun _ _ => rfl)) pe_int (nomark _))))) (pss_one (ps_expr (pe_bm PySem.F.plainAttrs_list PySem.F.slot_list_append PySem.F.type_list_append mt_app (pv 2) (pa_cons (pe_lst (pa_cons pe_str (pa_cons pe_str (pa_cons (pe_callTy call_strI rfl T.z_str bt_str (pa_cons (pe_dget (hu_of hr) (pv 0) pe_str (fun _ _ => rfl)) pa_nil)) pa_nil)))) pa_nil)))) pss_nil)))))
    (pss_cons (ps_set (i := 3) sc__law_clauses.nd rfl (Or.inl rfl) (pe_lst (pa_cons pe_str (pa_cons (pe_callS (ok__law_rate T) (hr.mono (by decide)) rfl T.m__law_rate T.F__law_rate.kp T.b__law_rate (fun σ => passAt (takes_of rfl rfl rfl rfl) σ) (pa_cons (pe_dget (hu_of hr) (pv 0) pe_str (fun _ _ => rfl)) pa_nil)) pa_nil))))
    (pss_cons (ps_cut (ps_if (pt_cmpR op_ne (pe_dget (hu_of hr) (pv 0) pe_str (fun _ _ => rfl)) pe_str (nomark _)) (pss_cons (ps_set (i := 3) sc__law_clauses.nd rfl (Or.inl rfl) (pe_lst (pa_cons pe_str (pa_cons (pe_dget (hu_of hr) (pv 0) pe_str (fun _ _ => rfl)) (pa_cons pe_str (pa_cons (pe_callS (ok__law_rate T) (hr.mono (by decide)) rfl T.m__law_rate T.F__law_rate.kp T.b__law_rate (fun σ => passAt (takes_of rfl rfl rfl rfl) σ) (pa_cons (pe_dget (hu_of hr) (pv 0) pe_str (fun _ _ => rfl)) pa_nil)) pa_nil))))))
      (pss_one (ps_cut (ps_if (PW.pt (pw_or (pt_val (pv 1)) (pw_or (pt_cmpR op_ne (pe_dget (hu_of hr) (pv 0) pe_str (fun _ _ => rfl)) pe_int (nomark _)) (pw_or1 (pt_cmpR op_ne (pe_dget (hu_of hr) (pv 0) pe_str (fun _ _ => rfl)) pe_int (nomark _)))))) (pss_one (ps_set (i := 3) sc__law_clauses.nd rfl (Or.inl rfl) (pe_op op_ct (pv 3) (pe_lst (pa_cons pe_str (pa_cons (pe_callS (ok__law_rate T) (hr.mono (by decide)) rfl T.m__law_rate T.F__law_rate.kp T.b__law_rate (fun σ => passAt (takes_of rfl rfl rfl rfl) σ) (pa_cons (pe_dget (hu_of hr) (pv 0) pe_str (fun _ _ => rfl)) pa_nil)) (pa_cons pe_str (pa_cons (pe_callS (ok__law_rate T) (hr.mono (by decide)) rfl T.m__law_rate T.F__law_rate.kp T.b__law_rate (fun σ => passAt (takes_of rfl rfl rfl rfl) σ) (pa_cons (pe_dget (hu_of hr) (pv 0) pe_str (fun _ _ => rfl)) pa_nil)) pa_nil)))))))) pss_nil)))) pss_nil))
    (pss_cons (ps_expr (pe_bm PySem.F.plainAttrs_list PySem.F.slot_list_append PySem.F.type_list_append mt_app (pv 2) (pa_cons (pv 3) pa_nil)))
    (pss_cons (ps_cut (ps_if (PW.pt (pw_or (pt_val (pv 1)) (pw_or1 (pt_cmpR op_ne (pe_dget (hu_of hr) (pv 0) pe_str (fun _ _ => rfl)) pe_str (nomark _))))) (pss_one (ps_expr (pe_bm PySem.F.plainAttrs_list PySem.F.slot_list_append PySem.F.type_list_append mt_app (pv 2) (pa_cons (pe_lst (pa_cons pe_str (pa_cons (pe_dget (hu_of hr) (pv 0) pe_str (fun _ _ => rfl)) pa_nil))) pa_nil)))) pss_nil))
    (pss_cons (ps_cut (ps_if (PW.pt (pw_or (pt_val (pv 1)) (pw_or1 (pt_cmpR op_ne (pe_dget (hu_of hr) (pv 0) pe_str (fun _ _ => rfl)) pe_str (nomark _))))) (pss_one (ps_expr (pe_bm PySem.F.plainAttrs_list PySem.F.slot_list_append PySem.F.type_list_append mt_app (pv 2) (pa_cons (pe_lst (pa_cons pe_str (pa_cons (pe_dget (hu_of hr) (pv 0) pe_str (fun _ _ => rfl)) pa_nil))) pa_nil)))) pss_nil))
    (pss_cons (ps_cut (ps_if (pt_cmpR op_gt (pe_dget (hu_of hr) (pv 0) pe_str (fun _ _ => rfl)) pe_int (nomark _)) (pss_one (ps_expr (pe_bm PySem.F.plainAttrs_list PySem.F.slot_list_append PySem.F.type_list_append mt_app (pv 2) (pa_cons (pe_lst (pa_cons pe_str (pa_cons pe_str (pa_cons (pe_callS (ok__law_money T) (hr.mono (by decide)) rfl T.m__law_money T.F__law_money.kp T.b__law_money (fun σ => passAt (takes_of rfl rfl rfl rfl) σ) (pa_cons (pe_dget (hu_of hr) (pv 0) pe_str (fun _ _ => rfl)) pa_nil)) (pa_cons pe_str (pa_cons (pe_callTy call_strI rfl T.z_str bt_str (pa_cons (pe_dget (hu_of hr) (pv 0) pe_str (fun _ _ => rfl)) pa_nil)) pa_nil)))))) pa_nil)))) (pss_one (ps_cut (ps_if (PW.pt (pw_or (pt_val (pv 1)) (pw_or1 (pt_cmpR op_ne (pe_dget (hu_of hr) (pv 0) pe_str (fun _ _ => rfl)) pe_int (nomark _))))) (pss_one (ps_expr (pe_bm PySem.F.plainAttrs_list PySem.F.slot_list_append PySem.F.type_list_append mt_app (pv 2) (pa_cons (pe_lst (pa_cons pe_str (pa_cons pe_str (pa_cons (pe_callS (ok__law_money T) (hr.mono (by decide)) rfl T.m__law_money T.F__law_money.kp T.b__law_money (fun σ => passAt (takes_of rfl rfl rfl rfl) σ) (pa_cons (pe_dget (hu_of hr) (pv 0) pe_str (fun _ _ => rfl)) pa_nil)) pa_nil)))) pa_nil)))) pss_nil)))))
    (pss_cons (ps_cut (ps_if (PW.pt (pw_or (pt_val (pv 1)) (pw_or1 (pt_cmpR op_ne (pe_dget (hu_of hr) (pv 0) pe_str (fun _ _ => rfl)) pe_int (nomark _))))) (pss_one (ps_expr (pe_bm PySem.F.plainAttrs_list PySem.F.slot_list_append PySem.F.type_list_append mt_app (pv 2) (pa_cons (pe_lst (pa_cons pe_str (pa_cons pe_str (pa_cons (pe_callS (ok__law_money T) (hr.mono (by decide)) rfl T.m__law_money T.F__law_money.kp T.b__law_money (fun σ => passAt (takes_of rfl rfl rfl rfl) σ) (pa_cons (pe_dget (hu_of hr) (pv 0) pe_str (fun _ _ => rfl)) pa_nil)) pa_nil)))) pa_nil)))) pss_nil))
    (pss_cons (ps_cut (ps_if (PW.pt (pw_or (pt_val (pv 1)) (pw_or (pt_cmpR op_ne (pe_dget (hu_of hr) (pv 0) pe_str (fun _ _ => rfl)) pe_int (nomark _)) (pw_or1 (pt_cmpR op_ne (pe_dget (hu_of hr) (pv 0) pe_str (fun _ _ => rfl)) pe_int (nomark _)))))) (pss_one (ps_expr (pe_bm PySem.F.plainAttrs_list PySem.F.slot_list_append PySem.F.type_list_append mt_app (pv 2) (pa_cons (pe_lst (pa_cons pe_str (pa_cons pe_str (pa_cons (pe_callS (ok__law_money T) (hr.mono (by decide)) rfl T.m__law_money T.F__law_money.kp T.b__law_money (fun σ => passAt (takes_of rfl rfl rfl rfl) σ) (pa_cons (pe_dget (hu_of hr) (pv 0) pe_str (fun _ _ => rfl)) pa_nil)) (pa_cons pe_str (pa_cons (pe_callTy call_strI rfl T.z_str bt_str (pa_cons (pe_dget (hu_of hr) (pv 0) pe_str (fun _ _ => rfl)) pa_nil)) (pa_cons pe_str pa_nil))))))) pa_nil)))) pss_nil))
    (pss_cons (ps_cut (ps_if (PW.pt (pw_or (pt_val (pv 1)) (pw_or (pt_cmpR op_ne (pe_dget (hu_of hr) (pv 0) pe_str (fun _ _ => rfl)) pe_int (nomark _)) (pw_or1 (pt_cmpR op_ne (pe_dget (hu_of hr) (pv 0) pe_str (fun _ _ => rfl)) pe_int (nomark _)))))) (pss_one (ps_expr (pe_bm PySem.F.plainAttrs_list PySem.F.slot_list_append PySem.F.type_list_append mt_app (pv 2) (pa_cons (pe_lst (pa_cons pe_str (pa_cons pe_str (pa_cons (pe_callTy call_strI rfl T.z_str bt_str (pa_cons (pe_dget (hu_of hr) (pv 0) pe_str (fun _ _ => rfl)) pa_nil)) (pa_cons pe_str (pa_cons (pe_callTy call_strI rfl T.z_str bt_str (pa_cons (pe_dget (hu_of hr) (pv 0) pe_str (fun _ _ => rfl)) pa_nil)) (pa_cons pe_str pa_nil))))))) pa_nil)))) pss_nil))
    (pss_cons (ps_cut (ps_if (PW.pt (pw_or (pt_val (pv 1)) (pw_or1 (pt_cmpR (op_neD hr.units) (pe_dget (hu_of hr) (pv 0) pe_str (fun _ _ => rfl)) (pe_tup (pa_cons pe_str (pa_cons pe_str (pa_cons pe_str pa_nil)))) (nomark _))))) (pss_one (ps_expr (pe_bm PySem.F.plainAttrs_list PySem.F.slot_list_append PySem.F.type_list_append mt_app (pv 2) (pa_cons (pe_lst (pa_cons pe_str (pa_cons (pe_ix ix_seq (pe_dget (hu_of hr) (pv 0) pe_str (fun _ _ => rfl)) pe_int (fun _ _ => rfl)) (pa_cons pe_str (pa_cons (pe_ix ix_seq (pe_dget (hu_of hr) (pv 0) pe_str (fun _ _ => rfl)) pe_int (fun _ _ => rfl)) (pa_cons pe_str (pa_cons (pe_ix ix_seq (pe_dget (hu_of hr) (pv 0) pe_str (fun _ _ => rfl)) pe_int (fun _ _ => rfl)) pa_nil))))))) pa_nil)))) pss_nil))
    (pss_cons (ps_cut (ps_if (PW.pt (pw_or (pt_val (pv 1)) (pw_or1 (pt_cmpR op_ne (pe_dget (hu_of hr) (pv 0) pe_str (fun _ _ => rfl)) pe_int (nomark _))))) (pss_one (ps_expr (pe_bm PySem.F.plainAttrs_list PySem.F.slot_list_append PySem.F.type_list_append mt_app (pv 2) (pa_cons (pe_lst (pa_cons pe_str (pa_cons (pe_callS (ok__law_rate T) (hr.mono (by decide)) rfl T.m__law_rate T.F__law_rate.kp T.b__law_rate (fun σ => passAt (takes_of rfl rfl rfl rfl) σ) (pa_cons (pe_dget (hu_of hr) (pv 0) pe_str (fun _ _ => rfl)) pa_nil)) pa_nil))) pa_nil)))) pss_nil))
    (pss_one (ps_ret (pv 2)))))))))))))))))), ?_⟩
    have gt := (good_of g.good).1
    have go := (good_of g.good).2
    have g1 := gt.count
    have g2 := every_bd gt.every
    have g3 := gt.due
    have g4 := gt.free
    have g5 := gt.ofee
    have g6 := gt.opart
    have g7 := gt.rate
    have g8 := gt.lowest
    have g9 := gt.highest
    have g10 := gt.pfee
    have g11 := gt.lfee
    have g12 := gt.grace
    have g13 := gt.epart
    have g14 := gt.emonths
    have g15 := gt.pen
    have l3' : os.length = 3 := go.length_eq
    obtain ⟨a0, a1, a2, rfl⟩ : ∃ a b c, os = [a, b, c] := by
      match os, l3' with
      | [a, b, c], _ => exact ⟨a, b, c, rfl⟩
    walk_at "rd"
    refine g.get 1 rfl rfl ?_
    walk_at "rd"
    refine strI_go (log_ok (by omega)) ?_
    walk_at "rd"
    refine g.get 12 rfl rfl ?_
    walk_at "rd"
    rename_i p1 n1 D nD1
    have v1 := same_new (o := .lst [.str "payments", .str (toString t.count), .str t.scheme]) (Same.refl H) n1
    have nD : H D = none := sameZ v1 nD1
    have v2 := same_new (o := .lst [.ref p1]) v1 nD1
    have g0 := g.same v2
    refine ⟨fun σ' H' => Wall (∃ as u, Same H H' ∧ Rws H' D as (rowsN w t [a0, a1, a2] 1) ∧ (∀ a ∈ as, H a = none) ∧ σ' = [some (.ref p), some (.bl w), some (.ref D), u]), ?_, ?_⟩
    · walk_at "rd"
      refine g0.get 13 rfl rfl ?_
      walk_at "rd"
      refine iteD (fun c => ?_) (fun c => ?_)
      · have c : 0 < t.free := c
        walk_at "rd"
        refine g0.get 13 rfl rfl ?_
        walk_at "rd"
        refine strI_go (log_ok (by omega)) ?_
        walk_at "rd"
        rename_i p2 n2 p3 n3
        refine wall ⟨[p3], _, same_set (same_new (same_new v2 n2) n3) nD, ?_, fun a ha => by rw [List.mem_singleton.mp ha]; exact sameZ (same_new v2 n2) n3, rfl⟩
        show Rws _ D [p3] [rowPay t]
        unfold rowPay
        rw [if_pos c]
        have pD : p3 ≠ D := (ne_of_none (hp_upd n2 upd_same) n3).symm
        refine ⟨upd_same, rfl, fun i a r h1 h2 => ?_⟩
        cases i with
        | zero =>
          cases h1
          cases h2
          exact ⟨pD, by rw [upd_ne pD]; exact upd_same⟩
        | succ i => cases h1
      · have c : ¬ 0 < t.free := c
        refine wall ⟨[p1], _, v2, ?_, fun a ha => by rw [List.mem_singleton.mp ha]; exact n1, rfl⟩
        show Rws _ D [p1] [rowPay t]
        unfold rowPay
        rw [if_neg c]
        exact ⟨upd_same, rfl, fun i a r h1 h2 => by
          cases i with
          | zero =>
            cases h1
            cases h2
            exact ⟨ne_of_none (upd_same) nD1, hp_upd nD1 upd_same⟩
          | succ i => cases h1⟩
    rintro σ H1 ⟨w1⟩
    obtain ⟨as1, u1, s1, L1, fr1, rfl⟩ := w1 trivial
    clear w1
    have g1 := g.same s1
    have eL1 := L1.at_
    refine ⟨fun σ' H' => Wall (∃ as u, Same H H' ∧ Rws H' D as (rowsN w t [a0, a1, a2] 2) ∧ (∀ a ∈ as, H a = none) ∧ σ' = [some (.ref p), some (.bl w), some (.ref D), u]), ?_, ?_⟩
    · skip
      walk_at "rd"
      refine iteB (fun hw => ?_) (fun hw => ?_)
      · walk_at "rd"
        walk_at "rd"
        refine g1.get 2 rfl rfl ?_
        walk_at "rd"
        refine strI_go (log_ok (by omega)) ?_
        walk_at "rd"
        rename_i pb nb
        have eD : pb ≠ D := fun z => by rw [z, L1.at_] at nb; cases nb
        refine row_app (row := ["every", S t.every, "months"]) (s1.trans (same_new (Same.refl _) nb)) nD (L1.same (same_new (Same.refl _) nb)) upd_same eD (Nat.lt_of_le_of_lt rowsN_lenC (by decide)) fun H' s' L' => ?_
        rw [← rowsN_some (k := 1) (by show some (if w = true ∨ t.every ≠ 1 then some (["every", S t.every, "months"] : List Str) else none) = _; rw [if_pos (.inl hw)])] at L'
        exact wall ⟨_, _, s', L', frs_app fr1 (sameZ s1 nb), rfl⟩
      walk_at "rd"
      refine g1.get 2 rfl rfl ?_
      walk_at "rd"
      refine iteIN (fun h0 => ?_) (fun h0 => ?_)
      · walk_at "rd"
        walk_at "rd"
        refine g1.get 2 rfl rfl ?_
        walk_at "rd"
        refine strI_go (log_ok (by omega)) ?_
        walk_at "rd"
        rename_i pb nb
        have eD : pb ≠ D := fun z => by rw [z, L1.at_] at nb; cases nb
        refine row_app (row := ["every", S t.every, "months"]) (s1.trans (same_new (Same.refl _) nb)) nD (L1.same (same_new (Same.refl _) nb)) upd_same eD (Nat.lt_of_le_of_lt rowsN_lenC (by decide)) fun H' s' L' => ?_
        rw [← rowsN_some (k := 1) (by show some (if w = true ∨ t.every ≠ 1 then some (["every", S t.every, "months"] : List Str) else none) = _; rw [if_pos (.inr h0)])] at L'
        exact wall ⟨_, _, s', L', frs_app fr1 (sameZ s1 nb), rfl⟩
      walk_at "rd"
      have L' := L1
      rw [← rowsN_none (k := 1) (by show some (if w = true ∨ t.every ≠ 1 then some (["every", S t.every, "months"] : List Str) else none) = _; rw [if_neg (fun q => q.elim (fun q => absurd (hw.symm.trans q) (by decide)) (fun q => q h0))])] at L'
      exact wall ⟨_, _, s1, L', fr1, rfl⟩
    rintro σ H2 ⟨w1⟩
    obtain ⟨as2, u2, s2, L2, fr2, rfl⟩ := w1 trivial
    clear w1
    have g2 := g.same s2
    have eL2 := L2.at_
    refine ⟨fun σ' H' => Wall (∃ as u, Same H H' ∧ Rws H' D as (rowsN w t [a0, a1, a2] 3) ∧ (∀ a ∈ as, H a = none) ∧ σ' = [some (.ref p), some (.bl w), some (.ref D), u]), ?_, ?_⟩
    · walk_at "rd"
      refine g2.get 4 rfl rfl ?_
      walk_at "rd"
      refine iteSN (fun hc => ?_) (fun hc => ?_)
      · walk_at "rd"
        walk_at "rd"
        refine g2.get 3 rfl rfl ?_
        walk_at "rd"
        refine strI_go (log_ok (by omega)) ?_
        walk_at "rd"
        refine g2.get 5 rfl rfl ?_
        walk_at "rd"
        refine g2.get 4 rfl rfl ?_
        walk_at "rd"
        rename_i pb nb
        have eD : pb ≠ D := fun z => by rw [z, L2.at_] at nb; cases nb
        refine row_app (row := ["due", "on", S t.due, t.rule, t.cal]) (s2.trans (same_new (Same.refl _) nb)) nD (L2.same (same_new (Same.refl _) nb)) upd_same eD (Nat.lt_of_le_of_lt rowsN_lenC (by decide)) fun H' s' L' => ?_
        rw [← rowsN_some (k := 2) (by show some (if t.cal ≠ "" then some (["due", "on", S t.due, t.rule, t.cal] : List Str) else if w = true ∨ t.due ≠ 1 then some ["due", "on", S t.due] else none) = _; rw [if_pos hc])] at L'
        exact wall ⟨_, _, s', L', frs_app fr2 (sameZ s2 nb), rfl⟩
      refine ⟨_, ?_, fun _ _ h => h⟩
      walk_at "rd"
      refine iteB (fun hw => ?_) (fun hw => ?_)
      · walk_at "rd"
        walk_at "rd"
        refine g2.get 3 rfl rfl ?_
        walk_at "rd"
        refine strI_go (log_ok (by omega)) ?_
        walk_at "rd"
        rename_i pb nb
        have eD : pb ≠ D := fun z => by rw [z, L2.at_] at nb; cases nb
        refine row_app (row := ["due", "on", S t.due]) (s2.trans (same_new (Same.refl _) nb)) nD (L2.same (same_new (Same.refl _) nb)) upd_same eD (Nat.lt_of_le_of_lt rowsN_lenC (by decide)) fun H' s' L' => ?_
        rw [← rowsN_some (k := 2) (by show some (if t.cal ≠ "" then some (["due", "on", S t.due, t.rule, t.cal] : List Str) else if w = true ∨ t.due ≠ 1 then some ["due", "on", S t.due] else none) = _; rw [if_neg (fun q => q hc), if_pos (.inl hw)])] at L'
        exact wall ⟨_, _, s', L', frs_app fr2 (sameZ s2 nb), rfl⟩
      walk_at "rd"
      refine g2.get 3 rfl rfl ?_
      walk_at "rd"
      refine iteIN (fun h0 => ?_) (fun h0 => ?_)
      · walk_at "rd"
        walk_at "rd"
        refine g2.get 3 rfl rfl ?_
        walk_at "rd"
        refine strI_go (log_ok (by omega)) ?_
        walk_at "rd"
        rename_i pb nb
        have eD : pb ≠ D := fun z => by rw [z, L2.at_] at nb; cases nb
        refine row_app (row := ["due", "on", S t.due]) (s2.trans (same_new (Same.refl _) nb)) nD (L2.same (same_new (Same.refl _) nb)) upd_same eD (Nat.lt_of_le_of_lt rowsN_lenC (by decide)) fun H' s' L' => ?_
        rw [← rowsN_some (k := 2) (by show some (if t.cal ≠ "" then some (["due", "on", S t.due, t.rule, t.cal] : List Str) else if w = true ∨ t.due ≠ 1 then some ["due", "on", S t.due] else none) = _; rw [if_neg (fun q => q hc), if_pos (.inr h0)])] at L'
        exact wall ⟨_, _, s', L', frs_app fr2 (sameZ s2 nb), rfl⟩
      walk_at "rd"
      have L' := L2
      rw [← rowsN_none (k := 2) (by show some (if t.cal ≠ "" then some (["due", "on", S t.due, t.rule, t.cal] : List Str) else if w = true ∨ t.due ≠ 1 then some ["due", "on", S t.due] else none) = _; rw [if_neg (fun q => q hc), if_neg (fun q => q.elim (fun q => absurd (hw.symm.trans q) (by decide)) (fun q => q h0))])] at L'
      exact wall ⟨_, _, s2, L', fr2, rfl⟩
    rintro σ H3 ⟨w1⟩
    obtain ⟨as3, u3, s3, L3, fr3, rfl⟩ := w1 trivial
    clear w1
    have g3 := g.same s3
    have eL3 := L3.at_
    walk_at "rd"
    refine g3.get 7 rfl rfl ?_
    walk_at "rd"
    refine _law_rate_go g7.1 g7.2 ?_
    walk_at "rd"
    rename_i pr nr
    have sr := same_new (o := .lst [.str "rate", .str (pct t.rate)]) (Same.refl H3) nr
    have g3r := g3.same sr
    refine ⟨fun σ' H' => Wall (∃ pr, Same H3 H' ∧ H3 pr = none ∧ H' pr = some (.lst ((rowRate w t).map V.str)) ∧ σ' = [some (.ref p), some (.bl w), some (.ref D), some (.ref pr)]), ?_, ?_⟩
    · walk_at "rd"
      refine g3r.get 6 rfl rfl ?_
      walk_at "rd"
      refine iteSN (fun hc => ?_) (fun hc => ?_)
      · walk_at "rd"
        refine g3r.get 6 rfl rfl ?_
        walk_at "rd"
        refine g3r.get 7 rfl rfl ?_
        walk_at "rd"
        refine _law_rate_go g7.1 g7.2 ?_
        walk_at "rd"
        rename_i ps nps
        have sps := same_new (o := .lst [.str "rate", .str t.index, .str "plus", .str (pct t.rate)]) sr nps
        have g3s := g3.same sps
        have n3s : H3 ps = none := sameZ sr nps
        have Ls : SqL K (upd (upd H3 pr (.lst [.str "rate", .str (pct t.rate)])) ps (.lst [.str "rate", .str t.index, .str "plus", .str (pct t.rate)])) ps [.str "rate", .str t.index, .str "plus", .str (pct t.rate)] := l_of upd_same
        refine ⟨_, ?_, fun _ _ h => h⟩
        walk_at "rd"
        refine iteB (fun hw => ?_) (fun hw => ?_)
        · walk_at "rd"
          refine g3s.get 8 rfl rfl ?_
          walk_at "rd"
          refine _law_rate_go g8.1 g8.2 ?_
          walk_at "rd"
          refine g3s.get 9 rfl rfl ?_
          walk_at "rd"
          refine _law_rate_go g9.1 g9.2 ?_
          walk_at "rd"
          rename_i pa na pc nc
          refine wall ⟨pc, same_new (same_new sps na) nc, sameZ (same_new sps na) nc, ?_, rfl⟩
          unfold rowRate
          rw [if_pos hc, if_pos (.inl hw)]
          exact upd_same
        walk_at "rd"
        refine g3s.get 8 rfl rfl ?_
        walk_at "rd"
        refine iteIN (fun h0 => ?_) (fun h0 => ?_)
        · walk_at "rd"
          refine g3s.get 8 rfl rfl ?_
          walk_at "rd"
          refine _law_rate_go g8.1 g8.2 ?_
          walk_at "rd"
          refine g3s.get 9 rfl rfl ?_
          walk_at "rd"
          refine _law_rate_go g9.1 g9.2 ?_
          walk_at "rd"
          rename_i pa na pc nc
          refine wall ⟨pc, same_new (same_new sps na) nc, sameZ (same_new sps na) nc, ?_, rfl⟩
          unfold rowRate
          rw [if_pos hc, if_pos (.inr (.inl h0))]
          exact upd_same
        walk_at "rd"
        refine g3s.get 9 rfl rfl ?_
        walk_at "rd"
        refine iteIN (fun h1 => ?_) (fun h1 => ?_)
        · walk_at "rd"
          refine g3s.get 8 rfl rfl ?_
          walk_at "rd"
          refine _law_rate_go g8.1 g8.2 ?_
          walk_at "rd"
          refine g3s.get 9 rfl rfl ?_
          walk_at "rd"
          refine _law_rate_go g9.1 g9.2 ?_
          walk_at "rd"
          rename_i pa na pc nc
          refine wall ⟨pc, same_new (same_new sps na) nc, sameZ (same_new sps na) nc, ?_, rfl⟩
          unfold rowRate
          rw [if_pos hc, if_pos (.inr (.inr h1))]
          exact upd_same
        refine wall ⟨ps, sps, n3s, ?_, rfl⟩
        unfold rowRate
        rw [if_pos hc, if_neg (fun q => q.elim (fun q => absurd (hw.symm.trans q) (by decide)) (fun q => q.elim (fun q => q h0) (fun q => q h1)))]
        exact upd_same
      · refine wall ⟨pr, sr, nr, ?_, rfl⟩
        unfold rowRate
        rw [if_neg (fun q => q hc)]
        exact upd_same
    rintro σ H3b ⟨w1⟩
    obtain ⟨pr2, s3b, n3b, e3b, rfl⟩ := w1 trivial
    clear w1
    have s33 := s3.trans s3b
    have L3b := L3.same s3b
    have e3D := L3b.at_
    have nrD : pr2 ≠ D := fun z => by rw [z, L3.at_] at n3b; cases n3b
    walk_at "rd"
    refine row_app (row := rowRate w t) s33 nD L3b e3b nrD (Nat.lt_of_le_of_lt rowsN_lenC (by decide)) fun H4 s4 L4 => ?_
    rw [← rowsN_some (k := 3) rfl] at L4
    have g4 := g.same s4
    have eL4 := L4.at_
    have fr4 := frs_app fr3 (sameZ s3 n3b)
    generalize as3 ++ [pr2] = as4 at L4 eL4 fr4
    refine ⟨fun σ' H' => Wall (∃ as u, Same H H' ∧ Rws H' D as (rowsN w t [a0, a1, a2] 5) ∧ (∀ a ∈ as, H a = none) ∧ σ' = [some (.ref p), some (.bl w), some (.ref D), u]), ?_, ?_⟩
    · skip
      walk_at "rd"
      refine iteB (fun hw => ?_) (fun hw => ?_)
      · walk_at "rd"
        walk_at "rd"
        refine g4.get 10 rfl rfl ?_
        walk_at "rd"
        rename_i pb nb
        have eD : pb ≠ D := fun z => by rw [z, L4.at_] at nb; cases nb
        refine row_app (row := ["days", t.conv]) (s4.trans (same_new (Same.refl _) nb)) nD (L4.same (same_new (Same.refl _) nb)) upd_same eD (Nat.lt_of_le_of_lt rowsN_lenC (by decide)) fun H' s' L' => ?_
        rw [← rowsN_some (k := 4) (by show some (if w = true ∨ t.conv ≠ "actual/365" then some (["days", t.conv] : List Str) else none) = _; rw [if_pos (.inl hw)])] at L'
        exact wall ⟨_, _, s', L', frs_app fr4 (sameZ s4 nb), rfl⟩
      walk_at "rd"
      refine g4.get 10 rfl rfl ?_
      walk_at "rd"
      refine iteSN (fun h0 => ?_) (fun h0 => ?_)
      · walk_at "rd"
        walk_at "rd"
        refine g4.get 10 rfl rfl ?_
        walk_at "rd"
        rename_i pb nb
        have eD : pb ≠ D := fun z => by rw [z, L4.at_] at nb; cases nb
        refine row_app (row := ["days", t.conv]) (s4.trans (same_new (Same.refl _) nb)) nD (L4.same (same_new (Same.refl _) nb)) upd_same eD (Nat.lt_of_le_of_lt rowsN_lenC (by decide)) fun H' s' L' => ?_
        rw [← rowsN_some (k := 4) (by show some (if w = true ∨ t.conv ≠ "actual/365" then some (["days", t.conv] : List Str) else none) = _; rw [if_pos (.inr h0)])] at L'
        exact wall ⟨_, _, s', L', frs_app fr4 (sameZ s4 nb), rfl⟩
      walk_at "rd"
      have L' := L4
      rw [← rowsN_none (k := 4) (by show some (if w = true ∨ t.conv ≠ "actual/365" then some (["days", t.conv] : List Str) else none) = _; rw [if_neg (fun q => q.elim (fun q => absurd (hw.symm.trans q) (by decide)) (fun q => q h0))])] at L'
      exact wall ⟨_, _, s4, L', fr4, rfl⟩
    rintro σ H5 ⟨w1⟩
    obtain ⟨as5, u5, s5, L5, fr5, rfl⟩ := w1 trivial
    clear w1
    have g5 := g.same s5
    have eL5 := L5.at_
    refine ⟨fun σ' H' => Wall (∃ as u, Same H H' ∧ Rws H' D as (rowsN w t [a0, a1, a2] 6) ∧ (∀ a ∈ as, H a = none) ∧ σ' = [some (.ref p), some (.bl w), some (.ref D), u]), ?_, ?_⟩
    · skip
      walk_at "rd"
      refine iteB (fun hw => ?_) (fun hw => ?_)
      · walk_at "rd"
        walk_at "rd"
        refine g5.get 11 rfl rfl ?_
        walk_at "rd"
        rename_i pb nb
        have eD : pb ≠ D := fun z => by rw [z, L5.at_] at nb; cases nb
        refine row_app (row := ["round", t.mode]) (s5.trans (same_new (Same.refl _) nb)) nD (L5.same (same_new (Same.refl _) nb)) upd_same eD (Nat.lt_of_le_of_lt rowsN_lenC (by decide)) fun H' s' L' => ?_
        rw [← rowsN_some (k := 5) (by show some (if w = true ∨ t.mode ≠ "near" then some (["round", t.mode] : List Str) else none) = _; rw [if_pos (.inl hw)])] at L'
        exact wall ⟨_, _, s', L', frs_app fr5 (sameZ s5 nb), rfl⟩
      walk_at "rd"
      refine g5.get 11 rfl rfl ?_
      walk_at "rd"
      refine iteSN (fun h0 => ?_) (fun h0 => ?_)
      · walk_at "rd"
        walk_at "rd"
        refine g5.get 11 rfl rfl ?_
        walk_at "rd"
        rename_i pb nb
        have eD : pb ≠ D := fun z => by rw [z, L5.at_] at nb; cases nb
        refine row_app (row := ["round", t.mode]) (s5.trans (same_new (Same.refl _) nb)) nD (L5.same (same_new (Same.refl _) nb)) upd_same eD (Nat.lt_of_le_of_lt rowsN_lenC (by decide)) fun H' s' L' => ?_
        rw [← rowsN_some (k := 5) (by show some (if w = true ∨ t.mode ≠ "near" then some (["round", t.mode] : List Str) else none) = _; rw [if_pos (.inr h0)])] at L'
        exact wall ⟨_, _, s', L', frs_app fr5 (sameZ s5 nb), rfl⟩
      walk_at "rd"
      have L' := L5
      rw [← rowsN_none (k := 5) (by show some (if w = true ∨ t.mode ≠ "near" then some (["round", t.mode] : List Str) else none) = _; rw [if_neg (fun q => q.elim (fun q => absurd (hw.symm.trans q) (by decide)) (fun q => q h0))])] at L'
      exact wall ⟨_, _, s5, L', fr5, rfl⟩
    rintro σ H6 ⟨w1⟩
    obtain ⟨as6, u6, s6, L6, fr6, rfl⟩ := w1 trivial
    clear w1
    have g6 := g.same s6
    have eL6 := L6.at_
    refine ⟨fun σ' H' => Wall (∃ as u, Same H H' ∧ Rws H' D as (rowsN w t [a0, a1, a2] 7) ∧ (∀ a ∈ as, H a = none) ∧ σ' = [some (.ref p), some (.bl w), some (.ref D), u]), ?_, ?_⟩
    · walk_at "rd"
      refine g6.get 15 rfl rfl ?_
      walk_at "rd"
      refine iteD (fun hc => ?_) (fun hc => ?_)
      · have hc : 0 < t.opart := hc
        walk_at "rd"
        walk_at "rd"
        refine g6.get 14 rfl rfl ?_
        walk_at "rd"
        refine _law_money_go (by omega) (by omega) ?_
        walk_at "rd"
        refine g6.get 15 rfl rfl ?_
        walk_at "rd"
        refine strI_go (log_ok (by omega)) ?_
        walk_at "rd"
        rename_i pb nb
        have eD : pb ≠ D := fun z => by rw [z, L6.at_] at nb; cases nb
        refine row_app (row := ["fees", "opening", amt t.ofee, "and", S t.opart]) (s6.trans (same_new (Same.refl _) nb)) nD (L6.same (same_new (Same.refl _) nb)) upd_same eD (Nat.lt_of_le_of_lt rowsN_lenC (by decide)) fun H' s' L' => ?_
        rw [← rowsN_some (k := 6) (by show some (if 0 < t.opart then some (["fees", "opening", amt t.ofee, "and", S t.opart] : List Str) else if w = true ∨ t.ofee ≠ 0 then some ["fees", "opening", amt t.ofee] else none) = _; rw [if_pos hc])] at L'
        exact wall ⟨_, _, s', L', frs_app fr6 (sameZ s6 nb), rfl⟩
      have hc : ¬ 0 < t.opart := hc
      refine ⟨_, ?_, fun _ _ h => h⟩
      walk_at "rd"
      refine iteB (fun hw => ?_) (fun hw => ?_)
      · walk_at "rd"
        walk_at "rd"
        refine g6.get 14 rfl rfl ?_
        walk_at "rd"
        refine _law_money_go (by omega) (by omega) ?_
        walk_at "rd"
        rename_i pb nb
        have eD : pb ≠ D := fun z => by rw [z, L6.at_] at nb; cases nb
        refine row_app (row := ["fees", "opening", amt t.ofee]) (s6.trans (same_new (Same.refl _) nb)) nD (L6.same (same_new (Same.refl _) nb)) upd_same eD (Nat.lt_of_le_of_lt rowsN_lenC (by decide)) fun H' s' L' => ?_
        rw [← rowsN_some (k := 6) (by show some (if 0 < t.opart then some (["fees", "opening", amt t.ofee, "and", S t.opart] : List Str) else if w = true ∨ t.ofee ≠ 0 then some ["fees", "opening", amt t.ofee] else none) = _; rw [if_neg hc, if_pos (.inl hw)])] at L'
        exact wall ⟨_, _, s', L', frs_app fr6 (sameZ s6 nb), rfl⟩
      walk_at "rd"
      refine g6.get 14 rfl rfl ?_
      walk_at "rd"
      refine iteIN (fun h0 => ?_) (fun h0 => ?_)
      · walk_at "rd"
        walk_at "rd"
        refine g6.get 14 rfl rfl ?_
        walk_at "rd"
        refine _law_money_go (by omega) (by omega) ?_
        walk_at "rd"
        rename_i pb nb
        have eD : pb ≠ D := fun z => by rw [z, L6.at_] at nb; cases nb
        refine row_app (row := ["fees", "opening", amt t.ofee]) (s6.trans (same_new (Same.refl _) nb)) nD (L6.same (same_new (Same.refl _) nb)) upd_same eD (Nat.lt_of_le_of_lt rowsN_lenC (by decide)) fun H' s' L' => ?_
        rw [← rowsN_some (k := 6) (by show some (if 0 < t.opart then some (["fees", "opening", amt t.ofee, "and", S t.opart] : List Str) else if w = true ∨ t.ofee ≠ 0 then some ["fees", "opening", amt t.ofee] else none) = _; rw [if_neg hc, if_pos (.inr h0)])] at L'
        exact wall ⟨_, _, s', L', frs_app fr6 (sameZ s6 nb), rfl⟩
      walk_at "rd"
      have L' := L6
      rw [← rowsN_none (k := 6) (by show some (if 0 < t.opart then some (["fees", "opening", amt t.ofee, "and", S t.opart] : List Str) else if w = true ∨ t.ofee ≠ 0 then some ["fees", "opening", amt t.ofee] else none) = _; rw [if_neg hc, if_neg (fun q => q.elim (fun q => absurd (hw.symm.trans q) (by decide)) (fun q => q h0))])] at L'
      exact wall ⟨_, _, s6, L', fr6, rfl⟩
    rintro σ H7 ⟨w1⟩
    obtain ⟨as7, u7, s7, L7, fr7, rfl⟩ := w1 trivial
    clear w1
    have g7 := g.same s7
    have eL7 := L7.at_
    refine ⟨fun σ' H' => Wall (∃ as u, Same H H' ∧ Rws H' D as (rowsN w t [a0, a1, a2] 8) ∧ (∀ a ∈ as, H a = none) ∧ σ' = [some (.ref p), some (.bl w), some (.ref D), u]), ?_, ?_⟩
    · skip
      walk_at "rd"
      refine iteB (fun hw => ?_) (fun hw => ?_)
      · walk_at "rd"
        walk_at "rd"
        refine g7.get 16 rfl rfl ?_
        walk_at "rd"
        refine _law_money_go (by omega) (by omega) ?_
        walk_at "rd"
        rename_i pb nb
        have eD : pb ≠ D := fun z => by rw [z, L7.at_] at nb; cases nb
        refine row_app (row := ["fees", "period", amt t.pfee]) (s7.trans (same_new (Same.refl _) nb)) nD (L7.same (same_new (Same.refl _) nb)) upd_same eD (Nat.lt_of_le_of_lt rowsN_lenC (by decide)) fun H' s' L' => ?_
        rw [← rowsN_some (k := 7) (by show some (if w = true ∨ t.pfee ≠ 0 then some (["fees", "period", amt t.pfee] : List Str) else none) = _; rw [if_pos (.inl hw)])] at L'
        exact wall ⟨_, _, s', L', frs_app fr7 (sameZ s7 nb), rfl⟩
      walk_at "rd"
      refine g7.get 16 rfl rfl ?_
      walk_at "rd"
      refine iteIN (fun h0 => ?_) (fun h0 => ?_)
      · walk_at "rd"
        walk_at "rd"
        refine g7.get 16 rfl rfl ?_
        walk_at "rd"
        refine _law_money_go (by omega) (by omega) ?_
        walk_at "rd"
        rename_i pb nb
        have eD : pb ≠ D := fun z => by rw [z, L7.at_] at nb; cases nb
        refine row_app (row := ["fees", "period", amt t.pfee]) (s7.trans (same_new (Same.refl _) nb)) nD (L7.same (same_new (Same.refl _) nb)) upd_same eD (Nat.lt_of_le_of_lt rowsN_lenC (by decide)) fun H' s' L' => ?_
        rw [← rowsN_some (k := 7) (by show some (if w = true ∨ t.pfee ≠ 0 then some (["fees", "period", amt t.pfee] : List Str) else none) = _; rw [if_pos (.inr h0)])] at L'
        exact wall ⟨_, _, s', L', frs_app fr7 (sameZ s7 nb), rfl⟩
      walk_at "rd"
      have L' := L7
      rw [← rowsN_none (k := 7) (by show some (if w = true ∨ t.pfee ≠ 0 then some (["fees", "period", amt t.pfee] : List Str) else none) = _; rw [if_neg (fun q => q.elim (fun q => absurd (hw.symm.trans q) (by decide)) (fun q => q h0))])] at L'
      exact wall ⟨_, _, s7, L', fr7, rfl⟩
    rintro σ H8 ⟨w1⟩
    obtain ⟨as8, u8, s8, L8, fr8, rfl⟩ := w1 trivial
    clear w1
    have g8 := g.same s8
    have eL8 := L8.at_
    refine ⟨fun σ' H' => Wall (∃ as u, Same H H' ∧ Rws H' D as (rowsN w t [a0, a1, a2] 9) ∧ (∀ a ∈ as, H a = none) ∧ σ' = [some (.ref p), some (.bl w), some (.ref D), u]), ?_, ?_⟩
    · skip
      walk_at "rd"
      refine iteB (fun hw => ?_) (fun hw => ?_)
      · walk_at "rd"
        walk_at "rd"
        refine g8.get 17 rfl rfl ?_
        walk_at "rd"
        refine _law_money_go (by omega) (by omega) ?_
        walk_at "rd"
        refine g8.get 18 rfl rfl ?_
        walk_at "rd"
        refine strI_go (log_ok (by omega)) ?_
        walk_at "rd"
        rename_i pb nb
        have eD : pb ≠ D := fun z => by rw [z, L8.at_] at nb; cases nb
        refine row_app (row := ["fees", "late", amt t.lfee, "after", S t.grace, "days"]) (s8.trans (same_new (Same.refl _) nb)) nD (L8.same (same_new (Same.refl _) nb)) upd_same eD (Nat.lt_of_le_of_lt rowsN_lenC (by decide)) fun H' s' L' => ?_
        rw [← rowsN_some (k := 8) (by show some (if w = true ∨ t.lfee ≠ 0 ∨ t.grace ≠ 5 then some (["fees", "late", amt t.lfee, "after", S t.grace, "days"] : List Str) else none) = _; rw [if_pos (.inl hw)])] at L'
        exact wall ⟨_, _, s', L', frs_app fr8 (sameZ s8 nb), rfl⟩
      walk_at "rd"
      refine g8.get 17 rfl rfl ?_
      walk_at "rd"
      refine iteIN (fun h0 => ?_) (fun h0 => ?_)
      · walk_at "rd"
        walk_at "rd"
        refine g8.get 17 rfl rfl ?_
        walk_at "rd"
        refine _law_money_go (by omega) (by omega) ?_
        walk_at "rd"
        refine g8.get 18 rfl rfl ?_
        walk_at "rd"
        refine strI_go (log_ok (by omega)) ?_
        walk_at "rd"
        rename_i pb nb
        have eD : pb ≠ D := fun z => by rw [z, L8.at_] at nb; cases nb
        refine row_app (row := ["fees", "late", amt t.lfee, "after", S t.grace, "days"]) (s8.trans (same_new (Same.refl _) nb)) nD (L8.same (same_new (Same.refl _) nb)) upd_same eD (Nat.lt_of_le_of_lt rowsN_lenC (by decide)) fun H' s' L' => ?_
        rw [← rowsN_some (k := 8) (by show some (if w = true ∨ t.lfee ≠ 0 ∨ t.grace ≠ 5 then some (["fees", "late", amt t.lfee, "after", S t.grace, "days"] : List Str) else none) = _; rw [if_pos (.inr (.inl h0))])] at L'
        exact wall ⟨_, _, s', L', frs_app fr8 (sameZ s8 nb), rfl⟩
      walk_at "rd"
      refine g8.get 18 rfl rfl ?_
      walk_at "rd"
      refine iteIN (fun h1 => ?_) (fun h1 => ?_)
      · walk_at "rd"
        walk_at "rd"
        refine g8.get 17 rfl rfl ?_
        walk_at "rd"
        refine _law_money_go (by omega) (by omega) ?_
        walk_at "rd"
        refine g8.get 18 rfl rfl ?_
        walk_at "rd"
        refine strI_go (log_ok (by omega)) ?_
        walk_at "rd"
        rename_i pb nb
        have eD : pb ≠ D := fun z => by rw [z, L8.at_] at nb; cases nb
        refine row_app (row := ["fees", "late", amt t.lfee, "after", S t.grace, "days"]) (s8.trans (same_new (Same.refl _) nb)) nD (L8.same (same_new (Same.refl _) nb)) upd_same eD (Nat.lt_of_le_of_lt rowsN_lenC (by decide)) fun H' s' L' => ?_
        rw [← rowsN_some (k := 8) (by show some (if w = true ∨ t.lfee ≠ 0 ∨ t.grace ≠ 5 then some (["fees", "late", amt t.lfee, "after", S t.grace, "days"] : List Str) else none) = _; rw [if_pos (.inr (.inr h1))])] at L'
        exact wall ⟨_, _, s', L', frs_app fr8 (sameZ s8 nb), rfl⟩
      walk_at "rd"
      have L' := L8
      rw [← rowsN_none (k := 8) (by show some (if w = true ∨ t.lfee ≠ 0 ∨ t.grace ≠ 5 then some (["fees", "late", amt t.lfee, "after", S t.grace, "days"] : List Str) else none) = _; rw [if_neg (fun q => q.elim (fun q => absurd (hw.symm.trans q) (by decide)) (fun q => q.elim (fun q => q h0) (fun q => q h1)))])] at L'
      exact wall ⟨_, _, s8, L', fr8, rfl⟩
    rintro σ H9 ⟨w1⟩
    obtain ⟨as9, u9, s9, L9, fr9, rfl⟩ := w1 trivial
    clear w1
    have g9 := g.same s9
    have eL9 := L9.at_
    refine ⟨fun σ' H' => Wall (∃ as u, Same H H' ∧ Rws H' D as (rowsN w t [a0, a1, a2] 10) ∧ (∀ a ∈ as, H a = none) ∧ σ' = [some (.ref p), some (.bl w), some (.ref D), u]), ?_, ?_⟩
    · skip
      walk_at "rd"
      refine iteB (fun hw => ?_) (fun hw => ?_)
      · walk_at "rd"
        walk_at "rd"
        refine g9.get 19 rfl rfl ?_
        walk_at "rd"
        refine strI_go (log_ok (by omega)) ?_
        walk_at "rd"
        refine g9.get 20 rfl rfl ?_
        walk_at "rd"
        refine strI_go (log_ok (by omega)) ?_
        walk_at "rd"
        rename_i pb nb
        have eD : pb ≠ D := fun z => by rw [z, L9.at_] at nb; cases nb
        refine row_app (row := ["fees", "early", S t.epart, "within", S t.emonths, "months"]) (s9.trans (same_new (Same.refl _) nb)) nD (L9.same (same_new (Same.refl _) nb)) upd_same eD (Nat.lt_of_le_of_lt rowsN_lenC (by decide)) fun H' s' L' => ?_
        rw [← rowsN_some (k := 9) (by show some (if w = true ∨ t.epart ≠ 0 ∨ t.emonths ≠ 0 then some (["fees", "early", S t.epart, "within", S t.emonths, "months"] : List Str) else none) = _; rw [if_pos (.inl hw)])] at L'
        exact wall ⟨_, _, s', L', frs_app fr9 (sameZ s9 nb), rfl⟩
      walk_at "rd"
      refine g9.get 19 rfl rfl ?_
      walk_at "rd"
      refine iteIN (fun h0 => ?_) (fun h0 => ?_)
      · walk_at "rd"
        walk_at "rd"
        refine g9.get 19 rfl rfl ?_
        walk_at "rd"
        refine strI_go (log_ok (by omega)) ?_
        walk_at "rd"
        refine g9.get 20 rfl rfl ?_
        walk_at "rd"
        refine strI_go (log_ok (by omega)) ?_
        walk_at "rd"
        rename_i pb nb
        have eD : pb ≠ D := fun z => by rw [z, L9.at_] at nb; cases nb
        refine row_app (row := ["fees", "early", S t.epart, "within", S t.emonths, "months"]) (s9.trans (same_new (Same.refl _) nb)) nD (L9.same (same_new (Same.refl _) nb)) upd_same eD (Nat.lt_of_le_of_lt rowsN_lenC (by decide)) fun H' s' L' => ?_
        rw [← rowsN_some (k := 9) (by show some (if w = true ∨ t.epart ≠ 0 ∨ t.emonths ≠ 0 then some (["fees", "early", S t.epart, "within", S t.emonths, "months"] : List Str) else none) = _; rw [if_pos (.inr (.inl h0))])] at L'
        exact wall ⟨_, _, s', L', frs_app fr9 (sameZ s9 nb), rfl⟩
      walk_at "rd"
      refine g9.get 20 rfl rfl ?_
      walk_at "rd"
      refine iteIN (fun h1 => ?_) (fun h1 => ?_)
      · walk_at "rd"
        walk_at "rd"
        refine g9.get 19 rfl rfl ?_
        walk_at "rd"
        refine strI_go (log_ok (by omega)) ?_
        walk_at "rd"
        refine g9.get 20 rfl rfl ?_
        walk_at "rd"
        refine strI_go (log_ok (by omega)) ?_
        walk_at "rd"
        rename_i pb nb
        have eD : pb ≠ D := fun z => by rw [z, L9.at_] at nb; cases nb
        refine row_app (row := ["fees", "early", S t.epart, "within", S t.emonths, "months"]) (s9.trans (same_new (Same.refl _) nb)) nD (L9.same (same_new (Same.refl _) nb)) upd_same eD (Nat.lt_of_le_of_lt rowsN_lenC (by decide)) fun H' s' L' => ?_
        rw [← rowsN_some (k := 9) (by show some (if w = true ∨ t.epart ≠ 0 ∨ t.emonths ≠ 0 then some (["fees", "early", S t.epart, "within", S t.emonths, "months"] : List Str) else none) = _; rw [if_pos (.inr (.inr h1))])] at L'
        exact wall ⟨_, _, s', L', frs_app fr9 (sameZ s9 nb), rfl⟩
      walk_at "rd"
      have L' := L9
      rw [← rowsN_none (k := 9) (by show some (if w = true ∨ t.epart ≠ 0 ∨ t.emonths ≠ 0 then some (["fees", "early", S t.epart, "within", S t.emonths, "months"] : List Str) else none) = _; rw [if_neg (fun q => q.elim (fun q => absurd (hw.symm.trans q) (by decide)) (fun q => q.elim (fun q => q h0) (fun q => q h1)))])] at L'
      exact wall ⟨_, _, s9, L', fr9, rfl⟩
    rintro σ H10 ⟨w1⟩
    obtain ⟨as10, u10, s10, L10, fr10, rfl⟩ := w1 trivial
    clear w1
    have g10 := g.same s10
    have eL10 := L10.at_
    refine ⟨fun σ' H' => Wall (∃ as u, Same H H' ∧ Rws H' D as (rowsN w t [a0, a1, a2] 11) ∧ (∀ a ∈ as, H a = none) ∧ σ' = [some (.ref p), some (.bl w), some (.ref D), u]), ?_, ?_⟩
    · have To := t_of (K := K) g10.ord
      walk_at "rd"
      refine iteB (fun hw => ?_) (fun hw => ?_)
      · walk_at "rd"
        refine g10.get 21 rfl rfl ?_
        walk_at "rd"
        refine g10.get 21 rfl rfl ?_
        walk_at "rd"
        refine g10.get 21 rfl rfl ?_
        walk_at "rd"
        rename_i pb nb
        have eD : pb ≠ D := fun z => by rw [z, L10.at_] at nb; cases nb
        refine row_app (row := (rowUse [a0, a1, a2])) (s10.trans (same_new (Same.refl _) nb)) nD (L10.same (same_new (Same.refl _) nb)) upd_same eD (Nat.lt_of_le_of_lt rowsN_lenC (by decide)) fun H' s' L' => ?_
        rw [← rowsN_some (k := 10) (by show some (if w = true ∨ ([a0, a1, a2] : List Str) ≠ usualO then some (rowUse [a0, a1, a2]) else none) = _; rw [if_pos (.inl hw)])] at L'
        exact wall ⟨_, _, s', L', frs_app fr10 (sameZ s10 nb), rfl⟩
      walk_at "rd"
      refine g10.get 21 rfl rfl ?_
      walk_at "rd"
      rename_i pu nu
      have su := same_new (o := .tup [.str "fees", .str "interest", .str "principal"]) (Same.refl H10) nu
      have g10u := g10.same su
      have Tou := t_of (K := K) g10u.ord
      have L10u := L10.same su
      have eL10u := L10u.at_
      have f2 : (([a0, a1, a2] : List Str).map V.str).all flatS = true := by rw [List.all_map]; exact (ord_few go).2
      refine neD_T (xs := ([a0, a1, a2] : List Str).map V.str) (ys := usualO.map V.str) Tou (t_of upd_same) f2 (by decide +kernel) ?_
      rw [eqL_strs]
      walk_at "rd"
      refine iteDN (fun h0 => ?_) (fun h0 => ?_)
      · walk_at "rd"
        refine g10u.get 21 rfl rfl ?_
        walk_at "rd"
        refine g10u.get 21 rfl rfl ?_
        walk_at "rd"
        refine g10u.get 21 rfl rfl ?_
        walk_at "rd"
        rename_i pb nb
        have eD : pb ≠ D := fun z => by rw [z, L10u.at_] at nb; cases nb
        refine row_app (row := (rowUse [a0, a1, a2])) ((s10.trans su).trans (same_new (Same.refl _) nb)) nD (L10u.same (same_new (Same.refl _) nb)) upd_same eD (Nat.lt_of_le_of_lt rowsN_lenC (by decide)) fun H' s' L' => ?_
        rw [← rowsN_some (k := 10) (by show some (if w = true ∨ ([a0, a1, a2] : List Str) ≠ usualO then some (rowUse [a0, a1, a2]) else none) = _; rw [if_pos (.inr h0)])] at L'
        exact wall ⟨_, _, s', L', frs_app fr10 (sameZ (s10.trans su) nb), rfl⟩
      have L' := L10u
      rw [← rowsN_none (k := 10) (by show some (if w = true ∨ ([a0, a1, a2] : List Str) ≠ usualO then some (rowUse [a0, a1, a2]) else none) = _; rw [if_neg (fun q => q.elim (fun q => absurd (hw.symm.trans q) (by decide)) (fun q => q h0))])] at L'
      exact wall ⟨_, _, s10.trans su, L', fr10, rfl⟩
    rintro σ H11 ⟨w1⟩
    obtain ⟨as11, u11, s11, L11, fr11, rfl⟩ := w1 trivial
    clear w1
    have g11 := g.same s11
    have eL11 := L11.at_
    refine ⟨fun σ' H' => Wall (∃ as u, Same H H' ∧ Rws H' D as (rowsN w t [a0, a1, a2] 12) ∧ (∀ a ∈ as, H a = none) ∧ σ' = [some (.ref p), some (.bl w), some (.ref D), u]), ?_, ?_⟩
    · skip
      walk_at "rd"
      refine iteB (fun hw => ?_) (fun hw => ?_)
      · walk_at "rd"
        walk_at "rd"
        refine g11.get 22 rfl rfl ?_
        walk_at "rd"
        refine _law_rate_go g15.1 g15.2 ?_
        walk_at "rd"
        rename_i pb nb
        have eD : pb ≠ D := fun z => by rw [z, L11.at_] at nb; cases nb
        refine row_app (row := ["penalty", pct t.pen]) (s11.trans (same_new (Same.refl _) nb)) nD (L11.same (same_new (Same.refl _) nb)) upd_same eD (Nat.lt_of_le_of_lt rowsN_lenC (by decide)) fun H' s' L' => ?_
        rw [← rowsN_some (k := 11) (by show some (if w = true ∨ t.pen ≠ 0 then some (["penalty", pct t.pen] : List Str) else none) = _; rw [if_pos (.inl hw)])] at L'
        exact wall ⟨_, _, s', L', frs_app fr11 (sameZ s11 nb), rfl⟩
      walk_at "rd"
      refine g11.get 22 rfl rfl ?_
      walk_at "rd"
      refine iteIN (fun h0 => ?_) (fun h0 => ?_)
      · walk_at "rd"
        walk_at "rd"
        refine g11.get 22 rfl rfl ?_
        walk_at "rd"
        refine _law_rate_go g15.1 g15.2 ?_
        walk_at "rd"
        rename_i pb nb
        have eD : pb ≠ D := fun z => by rw [z, L11.at_] at nb; cases nb
        refine row_app (row := ["penalty", pct t.pen]) (s11.trans (same_new (Same.refl _) nb)) nD (L11.same (same_new (Same.refl _) nb)) upd_same eD (Nat.lt_of_le_of_lt rowsN_lenC (by decide)) fun H' s' L' => ?_
        rw [← rowsN_some (k := 11) (by show some (if w = true ∨ t.pen ≠ 0 then some (["penalty", pct t.pen] : List Str) else none) = _; rw [if_pos (.inr h0)])] at L'
        exact wall ⟨_, _, s', L', frs_app fr11 (sameZ s11 nb), rfl⟩
      walk_at "rd"
      have L' := L11
      rw [← rowsN_none (k := 11) (by show some (if w = true ∨ t.pen ≠ 0 then some (["penalty", pct t.pen] : List Str) else none) = _; rw [if_neg (fun q => q.elim (fun q => absurd (hw.symm.trans q) (by decide)) (fun q => q h0))])] at L'
      exact wall ⟨_, _, s11, L', fr11, rfl⟩
    rintro σ H12 ⟨w1⟩
    obtain ⟨as12, u12, s12, L12, fr12, rfl⟩ := w1 trivial
    clear w1
    have g12 := g.same s12
    have eL12 := L12.at_
    walk_at "rd"
    exact q D as12 _ s12 nD L12 fr12
theorem _law_clauses_go {H : Hp} {Q : VK} {E : XK} {p : Addr} {w : Bool} {t : TM} {os : List Str} (g : TermD H p t os) (q : ∀ D as H', Same H H' → H D = none → Rws H' D as (rowsN w t os 12) → (∀ a ∈ as, H a = none) → Q (.ref D) H') : sp__law_clauses K [.ref p, .bl w] H Q E := by
  unfold sp__law_clauses
  exact ⟨p, w, t, os, rfl, g, q⟩

/-! ### _law_shown -/
theorem lineW_snoc {row : List Str} {w : Str} : lineW (row ++ [w]) = addW (lineW row) w := by
  unfold lineW
  rw [List.foldl_append]
  rfl
theorem addW_ll {n : Nat} {l w : Str} (a : LL n l) (b : LL 700 w) : LL (n + 701) (addW l w) := by
  unfold addW
  have h1 : (" " : Str).length = 1 := by decide +kernel
  split
  · exact ⟨by rw [len_app]; have := a.le; have := b.le; omega⟩
  · exact ⟨by rw [len_app, len_app, h1]; have := a.le; have := b.le; omega⟩
theorem lineW_ll : ∀ (row : List Str) (l : Str) (n : Nat), LL n l → (∀ w ∈ row, LL 700 w) → LL (n + row.length * 701) (row.foldl addW l)
  | [], l, n, h, _ => h.mono (by simp)
  | w :: row, l, n, h, hw => by
    have h1 := addW_ll h (hw w List.mem_cons_self)
    refine (lineW_ll row (addW l w) (n + 701) h1 fun z hz => hw z (List.mem_cons_of_mem _ hz)).mono ?_
    rw [List.length_cons, Nat.add_mul]
    omega
theorem rows_short {t : TM} {os : List Str} (g : GoodT t) (go : os.Perm usualO) : ∀ row ∈ rowsN false t os 12, row.length ≤ 8 ∧ ∀ w ∈ row, LL 700 w := by
  have g1 := g.count
  have g2 := every_bd g.every
  have g3 := g.due
  have g4 := g.free
  have g5 := g.ofee
  have g6 := g.opart
  have g7 := g.rate
  have g8 := g.lowest
  have g9 := g.highest
  have g10 := g.pfee
  have g11 := g.lfee
  have g12 := g.grace
  have g13 := g.epart
  have g14 := g.emonths
  have g15 := g.pen
  have w1 := (short_w g.rule (by decide +kernel)).mono (n := 700) (by decide)
  have w2 := (short_w g.conv (by decide +kernel)).mono (n := 700) (by decide)
  have w3 := (short_w g.mode (by decide +kernel)).mono (n := 700) (by decide)
  have w4 := (short_w g.scheme (by decide +kernel)).mono (n := 700) (by decide)
  have w5 := (opt_ll g.cal).mono (n := 700) (by decide)
  have w6 := (opt_ll g.index).mono (n := 700) (by decide)
  have si : ∀ {i : Int}, 0 ≤ i → i ≤ 1000000 → LL 700 (S i) := fun h0 h1 => (LL.int (by omega)).mono (by decide)
  have am : ∀ {i : Int}, 0 ≤ i → i ≤ 1000000000000 → LL 700 (amt i) := fun h0 h1 => (amt_len (by omega)).mono (by decide)
  have pc : ∀ {i : Int}, 0 ≤ i → i ≤ 1000000 → LL 700 (pct i) := fun h0 h1 => (pct_len (by omega)).mono (by decide)
  have l3' : os.length = 3 := go.length_eq
  obtain ⟨a0, a1, a2, rfl⟩ : ∃ a b c, os = [a, b, c] := by
    match os, l3' with
    | [a, b, c], _ => exact ⟨a, b, c, rfl⟩
  have k1 := (short_w (go.mem_iff.mp (show a0 ∈ [a0, a1, a2] by simp)) (by decide +kernel)).mono (n := 700) (by decide)
  have k2 := (short_w (go.mem_iff.mp (show a1 ∈ [a0, a1, a2] by simp)) (by decide +kernel)).mono (n := 700) (by decide)
  have k3 := (short_w (go.mem_iff.mp (show a2 ∈ [a0, a1, a2] by simp)) (by decide +kernel)).mono (n := 700) (by decide)
  have lit : ∀ {z : Str}, Nat.ble z.length 700 = true → LL 700 z := fun h => LL.lit h
  have al : ∀ {l : List Str}, (∀ w ∈ l, LL 700 w) → ∀ {x : Str}, LL 700 x → ∀ w ∈ x :: l, LL 700 w := fun h _ hx w hw => (List.mem_cons.mp hw).elim (fun e => e ▸ hx) (h w)
  have nl : ∀ w ∈ ([] : List Str), LL 700 w := fun w hw => by cases hw
  intro row hrow
  obtain ⟨o, ho, he⟩ := List.mem_filterMap.mp hrow
  cases (show o = some row from he)
  have ho := List.mem_of_mem_take ho
  unfold clW rowPay rowRate rowUse at ho
  simp only [List.mem_cons, List.not_mem_nil, or_false] at ho
  have D : ∀ {r : List Str}, row = r → (r.length ≤ 8 ∧ ∀ w ∈ r, LL 700 w) → row.length ≤ 8 ∧ ∀ w ∈ row, LL 700 w := fun e h => e ▸ h
  rcases ho with h | h | h | h | h | h | h | h | h | h | h | h
  all_goals (repeat' split at h)
  all_goals first
    | (cases h; done)
    | (refine D (Option.some.inj h) ⟨Nat.le_of_ble_eq_true (by rfl), ?_⟩
       repeat' (first | exact nl | refine al ?_ ?_)
       all_goals first | assumption | exact lit (by decide +kernel) | exact si (by omega) (by omega) | exact am (by omega) (by omega) | exact pc (by omega) (by omega))
@[irreducible] def sp__law_shown (K : PySem.W.Frag) : Sp := fun vs H Q E => ∃ (p : Addr) (t : TM) (os : List Str), vs = [.ref p] ∧ TermD H p t os ∧ (∀ H', Same H H' → Q (.str (Txt.join "\n" (allLW t os))) H')
theorem ok__law_shown (T : Txt w K mg) : FnOk P w K mg base (L2.CX P w) 3 T.a__law_shown T.fd__law_shown ["f"] (sp__law_shown K) := by
  refine T.F__law_shown.ok sc__law_shown (fun vs H Q E h => ?_) (fun cdv A outer s H vs Q E hr h => ?_)
  · unfold sp__law_shown at h
    obtain ⟨p, t, os, rfl, _⟩ := h
    rfl
  · unfold sp__law_shown at h
    obtain ⟨p, t, os, rfl, g, q⟩ := h
    refine ⟨_, (pss_cons (ps_set (i := 1) sc__law_shown.nd rfl (Or.inl rfl) (pe_lst (pa_cons (pe_op op_addS (pe_op op_addS pe_str (pe_dget (hu_of hr) (pv 0) pe_str (fun _ _ => rfl))) pe_str) pa_nil)))
    (pss_cons (ps_for (passes_of rfl) rfl (pi_list (pe_callS (ok__law_clauses T) (hr.mono (by decide)) rfl T.m__law_clauses T.F__law_clauses.kp T.b__law_clauses (fun σ => passAt (takes_of rfl rfl rfl rfl) σ) (pa_cons (pv 0) (pa_cons pe_bl pa_nil)))) (pg_name (i := 2) sc__law_shown.nd rfl (Or.inl rfl))
      (pss_cons (ps_set (i := 3) sc__law_shown.nd rfl (Or.inl rfl) pe_str)
      (pss_cons (ps_for (passes_of rfl) rfl (pi_list (pv 2)) (pg_name (i := 4) sc__law_shown.nd rfl (Or.inl rfl))
        (pss_one (ps_cut (ps_if (pt_cmpR op_eq (pv 4) pe_str (nomark _)) (pss_one (ps_set (i := 3) sc__law_shown.nd rfl (Or.inl rfl) (pe_op op_addS (pv 3) (pv 4)))) (pss_one (ps_set (i := 3) sc__law_shown.nd rfl (Or.inl rfl) (pe_op op_addS (pe_op op_addS (pv 3) pe_str) (pv 4))))))))
      (pss_one (ps_expr (pe_bm PySem.F.plainAttrs_list PySem.F.slot_list_append PySem.F.type_list_append mt_app (pv 1) (pa_cons (pe_op op_addS (pv 3) pe_str) pa_nil)))))))
    (pss_cons (ps_expr (pe_bm PySem.F.plainAttrs_list PySem.F.slot_list_append PySem.F.type_list_append mt_app (pv 1) (pa_cons pe_str pa_nil)))
    (pss_one (ps_ret (pe_m1 PySem.F.slot_str_join PySem.F.type_str_join mt_joinS pe_str (pv 1))))))), ?_⟩
    have gt := (good_of g.good).1
    have go := (good_of g.good).2
    have nml : LL 12 t.name := ⟨(nameB_iff.mp gt.name).2.1⟩
    have rsh := rows_short gt go
    walk_at "rd"
    refine g.get 0 rfl rfl ?_
    walk_at "rd"
    rename_i pl npl
    have s1 := same_new (o := .lst [.str ("product " ++ t.name ++ " {")]) (Same.refl H) npl
    refine _law_clauses_go (g.same s1) fun D as H2 s2 nD L2 fr2 => ?_
    have nD1 : pl ≠ D := ne_of_none upd_same nD
    have ep2 : H2 pl = some (.lst ((("product " ++ t.name ++ " {") :: ((rowsN false t os 12).take 0).map rowL).map V.str)) := s2 _ _ upd_same
    have s12 : Same H H2 := s1.trans s2
    have LD := l_of (K := K) L2.at_
    walk_at "rd"
    refine ⟨⟨_, LD⟩, for_list (xs := as.map V.ref) (fun i σ H' => Wall (∃ u2 u3 u4, σ = [some (.ref p), some (.ref pl), u2, u3, u4] ∧ Same H H' ∧ (∀ b o, b ≠ pl → H2 b = some o → H' b = some o) ∧ H' pl = some (.lst ((("product " ++ t.name ++ " {") :: ((rowsN false t os 12).take i).map rowL).map V.str)))) (wall ⟨_, _, _, rfl, s12, fun _ _ _ e => e, ep2⟩) ?_ ?_ ?_⟩
    · rintro i σ H' hi ⟨w⟩
      obtain ⟨u2, u3, u4, rfl, s, fr, ep⟩ := w trivial
      exact l_of (fr _ _ (Ne.symm nD1) L2.at_)
    · rintro i x σ H' hx ⟨w⟩
      obtain ⟨u2, u3, u4, rfl, s, fr, ep⟩ := w trivial
      clear w
      rw [List.getElem?_map] at hx
      obtain ⟨a, ha, rfl⟩ := Option.map_eq_some_iff.mp hx
      have hi : i < (rowsN false t os 12).length := by rw [← L2.len]; exact (List.getElem?_eq_some_iff.mp ha).1
      obtain ⟨row, hr2⟩ : ∃ row, (rowsN false t os 12)[i]? = some row := ⟨_, List.getElem?_eq_getElem hi⟩
      obtain ⟨aD, ea⟩ := L2.row i a row ha hr2
      have rs := rsh row (List.mem_of_getElem? hr2)
      have apl : a ≠ pl := fun z => by
        have := fr2 a (List.mem_of_getElem? ha)
        rw [z, upd_same] at this
        cases this
      have ta := l_of (K := K) (fr _ _ apl ea)
      walk_at "rd"
      refine ⟨⟨_, ta⟩, for_list (xs := row.map V.str) (fun j σ H2' => Wall (H2' = H' ∧ ∃ u4, σ = [some (.ref p), some (.ref pl), some (.ref a), some (.str (lineW (row.take j))), u4])) (wall ⟨rfl, _, rfl⟩) ?_ ?_ ?_⟩
      · rintro j σ H2' hj ⟨w⟩
        obtain ⟨rfl, u4, rfl⟩ := w trivial
        exact ta
      · rintro j x σ H2' hx ⟨w⟩
        obtain ⟨rfl, u4, rfl⟩ := w trivial
        clear w
        rw [List.getElem?_map] at hx
        obtain ⟨z, hz, rfl⟩ := Option.map_eq_some_iff.mp hx
        have hzl := rs.2 z (List.mem_of_getElem? hz)
        have hlj : LL 6000 (lineW (row.take j)) := by
          refine (lineW_ll (row.take j) " " 1 (LL.lit (by decide +kernel)) fun w hw => rs.2 w (List.mem_of_mem_take hw)).mono ?_
          have := rs.1
          rw [List.length_take]
          omega
        have e : lineW (row.take (j + 1)) = addW (lineW (row.take j)) z := by
          rw [List.take_add_one, hz]
          exact lineW_snoc
        refine ⟨fun σ' H'' => Wall (H'' = H2' ∧ ∃ u4, σ' = [some (.ref p), some (.ref pl), some (.ref a), some (.str (lineW (row.take (j + 1)))), u4]), ?_, fun _ _ h => h⟩
        walk_at "rd"
        refine iteS (fun c => ?_) (fun c => ?_)
        · walk_at "rd"
          rw [e]
          unfold addW
          rw [if_pos c]
          exact wall ⟨rfl, _, rfl⟩
        · walk_at "rd"
          rw [e]
          unfold addW
          rw [if_neg c]
          exact wall ⟨rfl, _, rfl⟩
      · rintro σ H2' ⟨w⟩
        obtain ⟨rfl, u4, rfl⟩ := w trivial
        rw [List.length_map, List.take_length]
        have hlw : LL 6000 (lineW row) := by
          refine (lineW_ll row " " 1 (LL.lit (by decide +kernel)) rs.2).mono ?_
          have := rs.1
          omega
        have hll : ((("product " ++ t.name ++ " {") :: ((rowsN false t os 12).take i).map rowL).map V.str).length < sizeLine := by
          have := rowsN_lenC (w := false) (t := t) (os := os) (k := 12)
          rw [List.length_map, List.length_cons, List.length_map, List.length_take, sizeLine_eq]
          omega
        walk_at "rd"
        refine wall ⟨_, _, _, rfl, same_set s (sameZ (Same.refl H) npl), fun b o hb e => by rw [upd_ne hb]; exact fr b o hb e, ?_⟩
        rw [upd_same, List.take_add_one, hr2, Option.toList_some, List.map_append, ← List.cons_append, List.map_append]
        rfl
    · rintro σ H' ⟨w⟩
      obtain ⟨u2, u3, u4, rfl, s, fr, ep⟩ := w trivial
      have hrl := rowsN_lenC (w := false) (t := t) (os := os) (k := 12)
      rw [List.length_map, L2.len, List.take_length] at ep
      have hll : ((("product " ++ t.name ++ " {") :: (rowsN false t os 12).map rowL).map V.str).length < sizeLine := by
        rw [List.length_map, List.length_cons, List.length_map, sizeLine_eq]
        omega
      walk_at "rd"
      have ey : (upd H' pl (.lst ((("product " ++ t.name ++ " {") :: (rowsN false t os 12).map rowL).map V.str ++ [.str "}"]))) pl = some (.lst ((allLW t os).map V.str)) := by
        rw [upd_same]
        show _ = some (HO.lst ((("product " ++ t.name ++ " {") :: ((rowsN false t os 12).map rowL ++ (["}"] : List Str))).map V.str))
        rw [← List.cons_append, List.map_append]
        rfl
      refine ⟨⟨_, rfl⟩, ?_⟩
      walk_at "rd"
      refine joinS_go (l_of ey) ?_ (q _ (same_set s npl))
      have h1 : ∀ z ∈ allLW t os, z.length ≤ 6010 := fun z hz => by
        unfold allLW at hz
        rcases List.mem_cons.mp hz with rfl | hz
        · exact (LL.mono (((LL.lit (n := 60) (by decide +kernel)).app nml).app (LL.lit (n := 60) (by decide +kernel))) (by decide) : LL 6010 _).le
        · rcases List.mem_append.mp hz with hz | hz
          · obtain ⟨row, hm, rfl⟩ := List.mem_map.mp hz
            have rs := rsh row hm
            have hlw : LL 6000 (lineW row) := by
              refine (lineW_ll row " " 1 (LL.lit (by decide +kernel)) rs.2).mono ?_
              have := rs.1
              omega
            unfold rowL
            exact (LL.mono (hlw.app (LL.lit (n := 3) (by decide +kernel))) (by decide) : LL 6010 _).le
          · rw [List.mem_singleton.mp hz]
            exact (LL.lit (n := 6010) (by decide +kernel)).le
      have h2 := sum_len_le h1
      have h3 : (allLW t os).length ≤ 14 := by
        unfold allLW
        rw [List.length_cons, List.length_append, List.length_map]
        show _ + 1 + 1 ≤ 14
        omega
      have h4 : ("\n" : Str).length = 1 := by decide +kernel
      rw [h4]
      omega
theorem _law_shown_go {H : Hp} {Q : VK} {E : XK} {p : Addr} {t : TM} {os : List Str} (g : TermD H p t os) (q : ∀ H', Same H H' → Q (.str (Txt.join "\n" (allLW t os))) H') : sp__law_shown K [.ref p] H Q E := by
  unfold sp__law_shown
  exact ⟨p, t, os, rfl, g, q⟩

/-! ### _law_cell -/
@[irreducible] def sp__law_cell (K : PySem.W.Frag) : Sp := fun vs H Q _ => ∃ (l : Addr) (ns : List Int) (j : Nat), vs = [.ref l, .int (j : Nat)] ∧ SqL K H l (ns.map V.int) ∧ ns.length ≤ 63 ∧ j < 64 ∧ Q (.int (cell ns j)) H
theorem ok__law_cell (T : Txt w K mg) : FnOk P w K mg base (L2.CX P w) 1 T.a__law_cell T.fd__law_cell ["script", "k"] (sp__law_cell K) := by
  refine T.F__law_cell.ok sc__law_cell (fun vs H Q E h => ?_) (fun cdv A outer s H vs Q E hr h => ?_)
  · unfold sp__law_cell at h
    obtain ⟨l, ns, j, rfl, _⟩ := h
    rfl
  · unfold sp__law_cell at h
    obtain ⟨l, ns, j, rfl, hs, hn, hj, q⟩ := h
    refine ⟨_, (pss_cons (ps_if (pt_cmpR op_lt (pv 1) (pe_callB call_ln rfl T.z_len bt_len (pa_cons (pv 0) pa_nil)) (nomark _)) (pss_one (ps_ret (pe_ix ix_seq (pv 0) (pv 1) (fun _ _ => rfl)))) pss_nil)
    (pss_one (ps_ret pe_int))), ?_⟩
    refine ⟨_, rfl, _, rfl, ln_l hs ⟨_, _, rfl, rfl, _, rfl, ?_⟩⟩
    rw [List.length_map]
    refine ite2 (fun h => ?_) (fun h => ?_)
    · have h' : j < ns.length := by have := of_decide_eq_true h; omega
      refine ⟨_, rfl, _, rfl, .inl ⟨l, _, _, .int (cell ns j), rfl, rfl, hs, ?_, q⟩⟩
      exact atI_map_cell h'
    · have h' : ns.length ≤ j := by
        refine Nat.le_of_not_lt fun z => h (decide_eq_true ?_)
        omega
      have e : cell ns j = 0 := by unfold cell; rw [List.getD_eq_getElem?_getD, List.getElem?_eq_none h']; rfl
      rw [e] at q
      exact q
theorem cell_go {H : Hp} {Q : VK} {E : XK} {l : Addr} {ns : List Int} (j : Nat) (hs : SqL K H l (ns.map V.int)) (hn : ns.length ≤ 63) (hj : j < 64) (q : Q (.int (cell ns j)) H) : sp__law_cell K [.ref l, .int (j : Nat)] H Q E := by
  unfold sp__law_cell
  exact ⟨l, ns, j, rfl, hs, hn, hj, q⟩
theorem cell_at {H : Hp} {Q : VK} {E : XK} {l : Addr} {ns : List Int} {x : Int} (j : Nat) (hs : SqL K H l (ns.map V.int)) (hn : ns.length ≤ 63) (hj : j < 64) (ex : x = (j : Nat)) (q : Q (.int (cell ns j)) H) : sp__law_cell K [.ref l, .int x] H Q E := by
  subst ex
  exact cell_go j hs hn hj q
local macro_rules | `(tactic| walk_at "call") => `(tactic| first | (apply cell_go 0; (walk_at "sq"); assumption; decide) | (apply cell_go 1; (walk_at "sq"); assumption; decide) | (apply cell_go 2; (walk_at "sq"); assumption; decide) | (apply cell_go 3; (walk_at "sq"); assumption; decide) | (apply cell_go 4; (walk_at "sq"); assumption; decide) | (apply cell_go 5; (walk_at "sq"); assumption; decide) | (apply cell_go 6; (walk_at "sq"); assumption; decide) | (apply cell_go 7; (walk_at "sq"); assumption; decide) | (apply cell_go 8; (walk_at "sq"); assumption; decide) | (apply cell_go 9; (walk_at "sq"); assumption; decide) | (apply cell_go 10; (walk_at "sq"); assumption; decide) | (apply cell_go 11; (walk_at "sq"); assumption; decide) | (apply cell_go 12; (walk_at "sq"); assumption; decide) | (apply cell_go 13; (walk_at "sq"); assumption; decide))

/-! ### _law_read_out -/
@[irreducible] def sp__law_read_out (T : Txt w K mg) : Sp := fun vs H Q E => ∃ (c : Addr) (t : TM) (os : List Str), vs = [.ref c] ∧ TermsAt K T.c_Terms H c t os ∧ (∀ p H', Same H H' → H p = none → H' p = some (.dK (zK keysL t.vals)) → Q (.ref p) H')
theorem ok__law_read_out (T : Txt w K mg) : FnOk P w K mg base (L2.CX P w) 1 T.a__law_read_out T.fd__law_read_out ["t"] (sp__law_read_out T) := by
  refine T.F__law_read_out.ok sc__law_read_out (fun vs H Q E h => ?_) (fun cdv A outer s H vs Q E hr h => ?_)
  · unfold sp__law_read_out at h
    obtain ⟨c, t, os, rfl, _⟩ := h
    rfl
  · unfold sp__law_read_out at h
    obtain ⟨c, t, os, rfl, St, q⟩ := h
    refine ⟨_, (pss_cons (ps_set (i := 1) sc__law_read_out.nd rfl (Or.inl rfl) (pe_disp (pps_cons pe_str (pe_fld (pv 0) rfl) (pps_cons pe_str (pe_fld (pv 0) rfl) (pps_cons pe_str (pe_fld (pv 0) rfl) (pps_cons pe_str (pe_fld (pv 0) rfl) (pps_cons pe_str (pe_fld (pv 0) rfl) pps_nil))))) (by rfl) (by rfl) (fun z => by cases z) (by decide)))
    (pss_cons (ps_dput (hu_of hr) (pv 1) pe_str (pe_fld (pv 0) rfl) rfl)
    (pss_cons (ps_dput (hu_of hr) (pv 1) pe_str (pe_fld (pv 0) rfl) rfl)
    (pss_cons (ps_dput (hu_of hr) (pv 1) pe_str (pe_fld (pv 0) rfl) rfl)
    (pss_cons (ps_dput (hu_of hr) (pv 1) pe_str (pe_fld (pv 0) rfl) rfl)
    (pss_cons (ps_dput (hu_of hr) (pv 1) pe_str (pe_fld (pv 0) rfl) rfl)
    (pss_cons (ps_dput (hu_of hr) (pv 1) pe_str (pe_fld (pv 0) rfl) rfl)
    (pss_cons (ps_dput (hu_of hr) (pv 1) pe_str (pe_fld (pv 0) rfl) rfl)
    (pss_cons (ps_dput (hu_of hr) (pv 1) pe_str (pe_fld (pv 0) rfl) rfl)
    (pss_cons (ps_dput (hu_of hr) (pv 1) pe_str (pe_fld (pv 0) rfl) rfl)
    (pss_cons (ps_dput (hu_of hr) (pv 1) pe_str (pe_fld (pv 0) rfl) rfl)
    (pss_cons (ps_dput (hu_of hr) (pv 1) pe_str (pe_fld (pv 0) rfl) rfl)
    (pss_cons (ps_dput (hu_of hr) (pv 1) pe_str (pe_fld (pv 0) rfl) rfl)
    (pss_cons (ps_dput (hu_of hr) (pv 1) pe_str (pe_fld (pv 0) rfl) rfl)
    (pss_cons (ps_dput (hu_of hr) (pv 1) pe_str (pe_fld (pv 0) rfl) rfl)
    (pss_cons (ps_dput (hu_of hr) (pv 1) pe_str (pe_fld (pv 0) rfl) rfl)
    (pss_cons (ps_dput (hu_of hr) (pv 1) pe_str (pe_fld (pv 0) rfl) rfl)
    (pss_cons (ps_dput (hu_of hr) (pv 1) pe_str (pe_fld (pv 0) rfl) rfl)
    (pss_cons (ps_dput (hu_of hr) (pv 1) pe_str (pe_fld (pv 0) rfl) rfl)
    (pss_one (ps_ret (pv 1)))))))))))))))))))))), ?_⟩
    obtain ⟨dx, hi⟩ := St.ins
    refine fun p np => ?_
    have hc : ∀ o, (upd H p o) c = some (.ins T.c_Terms dx t.flds) := fun o => hp_upd np hi
    walk_at "rd"
    refine ⟨upd_same, zK (keysL.take 5) [.str t.name, .int t.count, .int t.every, .int t.due, .str t.cal], rfl, Nat.le_of_ble_eq_true rfl, ?_⟩
    have e5 : (upd (upd H p (.dK [])) p (.dK (mergeK [] (zK (keysL.take 5) [.str t.name, .int t.count, .int t.every, .int t.due, .str t.cal])))) p = some (.dK (zK (keysL.take 5) [.str t.name, .int t.count, .int t.every, .int t.due, .str t.cal])) := by rw [upd_same]; rfl
    have s5 : Same H (upd (upd H p (.dK [])) p (.dK (mergeK [] (zK (keysL.take 5) [.str t.name, .int t.count, .int t.every, .int t.due, .str t.cal])))) := same_set (same_new (Same.refl H) np) np
    clear hc
    generalize (upd (upd H p (.dK [])) p (.dK (mergeK [] (zK (keysL.take 5) [.str t.name, .int t.count, .int t.every, .int t.due, .str t.cal])))) = H5 at *
    have i5 := s5 _ _ hi
    walk_at "rd"
    refine dputL 5 s5 np e5 rfl (by decide) rfl fun H6 s6 _ e6 => ?_
    replace e6 : H6 p = some (.dK (zK (keysL.take 6) [.str t.name, .int t.count, .int t.every, .int t.due, .str t.cal, .str t.rule])) := e6
    have i6 := s6 _ _ hi
    clear e5 s5 i5
    walk_at "rd"
    refine dputL 6 s6 np e6 rfl (by decide) rfl fun H7 s7 _ e7 => ?_
    replace e7 : H7 p = some (.dK (zK (keysL.take 7) [.str t.name, .int t.count, .int t.every, .int t.due, .str t.cal, .str t.rule, .str t.index])) := e7
    have i7 := s7 _ _ hi
    clear e6 s6 i6
    walk_at "rd"
    refine dputL 7 s7 np e7 rfl (by decide) rfl fun H8 s8 _ e8 => ?_
    replace e8 : H8 p = some (.dK (zK (keysL.take 8) [.str t.name, .int t.count, .int t.every, .int t.due, .str t.cal, .str t.rule, .str t.index, .int t.rate])) := e8
    have i8 := s8 _ _ hi
    clear e7 s7 i7
    walk_at "rd"
    refine dputL 8 s8 np e8 rfl (by decide) rfl fun H9 s9 _ e9 => ?_
    replace e9 : H9 p = some (.dK (zK (keysL.take 9) [.str t.name, .int t.count, .int t.every, .int t.due, .str t.cal, .str t.rule, .str t.index, .int t.rate, .int t.lowest])) := e9
    have i9 := s9 _ _ hi
    clear e8 s8 i8
    walk_at "rd"
    refine dputL 9 s9 np e9 rfl (by decide) rfl fun H10 s10 _ e10 => ?_
    replace e10 : H10 p = some (.dK (zK (keysL.take 10) [.str t.name, .int t.count, .int t.every, .int t.due, .str t.cal, .str t.rule, .str t.index, .int t.rate, .int t.lowest, .int t.highest])) := e10
    have i10 := s10 _ _ hi
    clear e9 s9 i9
    walk_at "rd"
    refine dputL 10 s10 np e10 rfl (by decide) rfl fun H11 s11 _ e11 => ?_
    replace e11 : H11 p = some (.dK (zK (keysL.take 11) [.str t.name, .int t.count, .int t.every, .int t.due, .str t.cal, .str t.rule, .str t.index, .int t.rate, .int t.lowest, .int t.highest, .str t.conv])) := e11
    have i11 := s11 _ _ hi
    clear e10 s10 i10
    walk_at "rd"
    refine dputL 11 s11 np e11 rfl (by decide) rfl fun H12 s12 _ e12 => ?_
    replace e12 : H12 p = some (.dK (zK (keysL.take 12) [.str t.name, .int t.count, .int t.every, .int t.due, .str t.cal, .str t.rule, .str t.index, .int t.rate, .int t.lowest, .int t.highest, .str t.conv, .str t.mode])) := e12
    have i12 := s12 _ _ hi
    clear e11 s11 i11
    walk_at "rd"
    refine dputL 12 s12 np e12 rfl (by decide) rfl fun H13 s13 _ e13 => ?_
    replace e13 : H13 p = some (.dK (zK (keysL.take 13) [.str t.name, .int t.count, .int t.every, .int t.due, .str t.cal, .str t.rule, .str t.index, .int t.rate, .int t.lowest, .int t.highest, .str t.conv, .str t.mode, .str t.scheme])) := e13
    have i13 := s13 _ _ hi
    clear e12 s12 i12
    walk_at "rd"
    refine dputL 13 s13 np e13 rfl (by decide) rfl fun H14 s14 _ e14 => ?_
    replace e14 : H14 p = some (.dK (zK (keysL.take 14) [.str t.name, .int t.count, .int t.every, .int t.due, .str t.cal, .str t.rule, .str t.index, .int t.rate, .int t.lowest, .int t.highest, .str t.conv, .str t.mode, .str t.scheme, .int t.free])) := e14
    have i14 := s14 _ _ hi
    clear e13 s13 i13
    walk_at "rd"
    refine dputL 14 s14 np e14 rfl (by decide) rfl fun H15 s15 _ e15 => ?_
    replace e15 : H15 p = some (.dK (zK (keysL.take 15) [.str t.name, .int t.count, .int t.every, .int t.due, .str t.cal, .str t.rule, .str t.index, .int t.rate, .int t.lowest, .int t.highest, .str t.conv, .str t.mode, .str t.scheme, .int t.free, .int t.ofee])) := e15
    have i15 := s15 _ _ hi
    clear e14 s14 i14
    walk_at "rd"
    refine dputL 15 s15 np e15 rfl (by decide) rfl fun H16 s16 _ e16 => ?_
    replace e16 : H16 p = some (.dK (zK (keysL.take 16) [.str t.name, .int t.count, .int t.every, .int t.due, .str t.cal, .str t.rule, .str t.index, .int t.rate, .int t.lowest, .int t.highest, .str t.conv, .str t.mode, .str t.scheme, .int t.free, .int t.ofee, .int t.opart])) := e16
    have i16 := s16 _ _ hi
    clear e15 s15 i15
    walk_at "rd"
    refine dputL 16 s16 np e16 rfl (by decide) rfl fun H17 s17 _ e17 => ?_
    replace e17 : H17 p = some (.dK (zK (keysL.take 17) [.str t.name, .int t.count, .int t.every, .int t.due, .str t.cal, .str t.rule, .str t.index, .int t.rate, .int t.lowest, .int t.highest, .str t.conv, .str t.mode, .str t.scheme, .int t.free, .int t.ofee, .int t.opart, .int t.pfee])) := e17
    have i17 := s17 _ _ hi
    clear e16 s16 i16
    walk_at "rd"
    refine dputL 17 s17 np e17 rfl (by decide) rfl fun H18 s18 _ e18 => ?_
    replace e18 : H18 p = some (.dK (zK (keysL.take 18) [.str t.name, .int t.count, .int t.every, .int t.due, .str t.cal, .str t.rule, .str t.index, .int t.rate, .int t.lowest, .int t.highest, .str t.conv, .str t.mode, .str t.scheme, .int t.free, .int t.ofee, .int t.opart, .int t.pfee, .int t.lfee])) := e18
    have i18 := s18 _ _ hi
    clear e17 s17 i17
    walk_at "rd"
    refine dputL 18 s18 np e18 rfl (by decide) rfl fun H19 s19 _ e19 => ?_
    replace e19 : H19 p = some (.dK (zK (keysL.take 19) [.str t.name, .int t.count, .int t.every, .int t.due, .str t.cal, .str t.rule, .str t.index, .int t.rate, .int t.lowest, .int t.highest, .str t.conv, .str t.mode, .str t.scheme, .int t.free, .int t.ofee, .int t.opart, .int t.pfee, .int t.lfee, .int t.grace])) := e19
    have i19 := s19 _ _ hi
    clear e18 s18 i18
    walk_at "rd"
    refine dputL 19 s19 np e19 rfl (by decide) rfl fun H20 s20 _ e20 => ?_
    replace e20 : H20 p = some (.dK (zK (keysL.take 20) [.str t.name, .int t.count, .int t.every, .int t.due, .str t.cal, .str t.rule, .str t.index, .int t.rate, .int t.lowest, .int t.highest, .str t.conv, .str t.mode, .str t.scheme, .int t.free, .int t.ofee, .int t.opart, .int t.pfee, .int t.lfee, .int t.grace, .int t.epart])) := e20
    have i20 := s20 _ _ hi
    clear e19 s19 i19
    walk_at "rd"
    refine dputL 20 s20 np e20 rfl (by decide) rfl fun H21 s21 _ e21 => ?_
    replace e21 : H21 p = some (.dK (zK (keysL.take 21) [.str t.name, .int t.count, .int t.every, .int t.due, .str t.cal, .str t.rule, .str t.index, .int t.rate, .int t.lowest, .int t.highest, .str t.conv, .str t.mode, .str t.scheme, .int t.free, .int t.ofee, .int t.opart, .int t.pfee, .int t.lfee, .int t.grace, .int t.epart, .int t.emonths])) := e21
    have i21 := s21 _ _ hi
    clear e20 s20 i20
    walk_at "rd"
    refine dputL 21 s21 np e21 rfl (by decide) rfl fun H22 s22 _ e22 => ?_
    replace e22 : H22 p = some (.dK (zK (keysL.take 22) [.str t.name, .int t.count, .int t.every, .int t.due, .str t.cal, .str t.rule, .str t.index, .int t.rate, .int t.lowest, .int t.highest, .str t.conv, .str t.mode, .str t.scheme, .int t.free, .int t.ofee, .int t.opart, .int t.pfee, .int t.lfee, .int t.grace, .int t.epart, .int t.emonths, .ref t.ord])) := e22
    have i22 := s22 _ _ hi
    clear e21 s21 i21
    walk_at "rd"
    refine dputL 22 s22 np e22 rfl (by decide) rfl fun H23 s23 _ e23 => ?_
    replace e23 : H23 p = some (.dK (zK (keysL.take 23) [.str t.name, .int t.count, .int t.every, .int t.due, .str t.cal, .str t.rule, .str t.index, .int t.rate, .int t.lowest, .int t.highest, .str t.conv, .str t.mode, .str t.scheme, .int t.free, .int t.ofee, .int t.opart, .int t.pfee, .int t.lfee, .int t.grace, .int t.epart, .int t.emonths, .ref t.ord, .int t.pen])) := e23
    have i23 := s23 _ _ hi
    clear e22 s22 i22
    walk_at "rd"
    exact q p H23 s23 np e23
theorem _law_read_out_go (T : Txt w K mg) {H : Hp} {Q : VK} {E : XK} {c : Addr} {t : TM} {os : List Str} (St : TermsAt K T.c_Terms H c t os) (q : ∀ p H', Same H H' → H p = none → H' p = some (.dK (zK keysL t.vals)) → Q (.ref p) H') : sp__law_read_out T [.ref c] H Q E := by
  unfold sp__law_read_out
  exact ⟨c, t, os, rfl, St, q⟩

/-! ### _law_keys -/
@[irreducible] def sp__law_keys : Sp := fun vs H Q E => vs = [] ∧ (∀ p H', Same H H' → H' p = some (.lst (keysL.map V.str)) → Q (.ref p) H')
theorem ok__law_keys (T : Txt w K mg) : FnOk P w K mg base (L2.CX P w) 1 T.a__law_keys T.fd__law_keys [] sp__law_keys := by
  refine T.F__law_keys.ok sc__law_keys (fun vs H Q E h => ?_) (fun cdv A outer s H vs Q E hr h => ?_)
  · unfold sp__law_keys at h
    obtain ⟨rfl, _⟩ := h
    rfl
  · unfold sp__law_keys at h
    obtain ⟨rfl, q⟩ := h
    refine ⟨_, (pss_cons (ps_set (i := 0) sc__law_keys.nd rfl (Or.inl rfl) (pe_lst (pa_cons pe_str (pa_cons pe_str (pa_cons pe_str (pa_cons pe_str (pa_cons pe_str (pa_cons pe_str (pa_cons pe_str (pa_cons pe_str (pa_cons pe_str (pa_cons pe_str (pa_cons pe_str pa_nil)))))))))))))
    (pss_cons (ps_set (i := 0) sc__law_keys.nd rfl (Or.inl rfl) (pe_op op_ct (pv 0) (pe_lst (pa_cons pe_str (pa_cons pe_str (pa_cons pe_str (pa_cons pe_str (pa_cons pe_str (pa_cons pe_str (pa_cons pe_str (pa_cons pe_str pa_nil)))))))))))
    (pss_one (ps_ret (pe_op op_ct (pv 0) (pe_lst (pa_cons pe_str (pa_cons pe_str (pa_cons pe_str (pa_cons pe_str pa_nil)))))))))), ?_⟩
    walk_at "rd"
    exact q _ _ (by repeat (first | exact Same.refl _ | refine same_new ?_ (by assumption))) upd_same
theorem _law_keys_go {H : Hp} {Q : VK} {E : XK} (q : ∀ p H', Same H H' → H' p = some (.lst (keysL.map V.str)) → Q (.ref p) H') : sp__law_keys [] H Q E := by
  unfold sp__law_keys
  exact ⟨rfl, q⟩

/-! ### _law_alike -/
@[irreducible] def sp__law_alike (T : Txt w K mg) : Sp := fun vs H Q E => ∃ (c p : Addr) (t : TM) (os : List Str), vs = [.ref c, .ref p] ∧ TermsAt K T.c_Terms H c t os ∧ TermD H p t os ∧ (∀ H', Same H H' → Q (.bl true) H')
theorem ok__law_alike (T : Txt w K mg) : FnOk P w K mg base (L2.CX P w) 2 T.a__law_alike T.fd__law_alike ["t", "f"] (sp__law_alike T) := by
  refine T.F__law_alike.ok sc__law_alike (fun vs H Q E h => ?_) (fun cdv A outer s H vs Q E hr h => ?_)
  · unfold sp__law_alike at h
    obtain ⟨c, p, t, os, rfl, _⟩ := h
    rfl
  · unfold sp__law_alike at h
    obtain ⟨c, p, t, os, rfl, St, g, q⟩ := h
    refine ⟨_, (pss_cons (ps_set (i := 2) sc__law_alike.nd rfl (Or.inl rfl) (pe_callS (ok__law_read_out T) (hr.mono (by decide)) rfl T.m__law_read_out T.F__law_read_out.kp T.b__law_read_out (fun σ => passAt (takes_of rfl rfl rfl rfl) σ) (pa_cons (pv 0) pa_nil)))
    (pss_cons (ps_for (passes_of rfl) rfl (pi_list (pe_callS0 (ok__law_keys T) (hr.mono (by decide)) rfl T.m__law_keys T.F__law_keys.kp T.b__law_keys (fun σ => passAt (takes_of rfl rfl rfl rfl) σ))) (pg_name (i := 3) sc__law_alike.nd rfl (Or.inl rfl))
      (pss_one (ps_if (pt_val (pe_callB call_is rfl T.z_isinstance bt_isinstance (pa_cons (pe_dget (hu_of hr) (pv 1) (pv 3) (fun _ _ => rfl)) (pa_cons (pe_bltn (v := .ty "str") rfl T.z_str bt_str rfl) pa_nil)))) (pss_one (ps_if (PW.pt (pw_or (pt_not (pt_val (pe_callB call_is rfl T.z_isinstance bt_isinstance (pa_cons (pe_dget (hu_of hr) (pv 2) (pv 3) (fun _ _ => rfl)) (pa_cons (pe_bltn (v := .ty "str") rfl T.z_str bt_str rfl) pa_nil))))) (pw_or1 (pt_cmpR (op_neD hr.units) (pe_dget (hu_of hr) (pv 2) (pv 3) (fun _ _ => rfl)) (pe_dget (hu_of hr) (pv 1) (pv 3) (fun _ _ => rfl)) (nomark _))))) (pss_one (ps_ret pe_bl)) pss_nil)) (pss_one (ps_if (pt_cmpR op_eq (pv 3) pe_str (nomark _)) (pss_one (ps_if (PW.pt (pw_or (pt_not (pt_val (pe_callB call_is rfl T.z_isinstance bt_isinstance (pa_cons (pe_dget (hu_of hr) (pv 2) (pv 3) (fun _ _ => rfl)) (pa_cons (pe_bltn (v := .ty "tuple") rfl T.z_tuple bt_tuple rfl) pa_nil))))) (pw_or1 (pt_cmpR (op_neD hr.units) (pe_dget (hu_of hr) (pv 2) (pv 3) (fun _ _ => rfl)) (pe_dget (hu_of hr) (pv 1) (pv 3) (fun _ _ => rfl)) (nomark _))))) (pss_one (ps_ret pe_bl)) pss_nil)) (pss_one (ps_if (PW.pt (pw_or (pt_not (pt_val (pe_callB call_is rfl T.z_isinstance bt_isinstance (pa_cons (pe_dget (hu_of hr) (pv 2) (pv 3) (fun _ _ => rfl)) (pa_cons (pe_bltn (v := .ty "int") rfl T.z_int bt_int rfl) pa_nil))))) (pw_or (pt_val (pe_callB call_is rfl T.z_isinstance bt_isinstance (pa_cons (pe_dget (hu_of hr) (pv 2) (pv 3) (fun _ _ => rfl)) (pa_cons (pe_bltn (v := .ty "bool") rfl T.z_bool bt_bool rfl) pa_nil)))) (pw_or1 (pt_cmpR (op_neD hr.units) (pe_dget (hu_of hr) (pv 2) (pv 3) (fun _ _ => rfl)) (pe_dget (hu_of hr) (pv 1) (pv 3) (fun _ _ => rfl)) (nomark _)))))) (pss_one (ps_ret pe_bl)) pss_nil)))))))
    (pss_one (ps_ret pe_bl)))), ?_⟩
    have gd := (good_of g.good).1
    walk_at "rd"
    refine _law_read_out_go T St fun p2 H2 s2 n2 e2 => ?_
    walk_at "rd"
    refine _law_keys_go fun pk Hk sk ek => ?_
    have s02 := s2.trans sk
    have g2 := g.same s02
    have d2 := sk _ _ e2
    have Lk := l_of (K := K) ek
    have fo2 : (os.map V.str).all flatS = true := by rw [List.all_map]; exact g.oks
    walk_at "rd"
    refine ⟨⟨_, Lk⟩, for_list (xs := keysL.map V.str) (fun i σ H' => H' = Hk ∧ ∃ u, σ = [some (.ref c), some (.ref p), some (.ref p2), u]) ⟨rfl, _, rfl⟩ ?_ ?_ ?_⟩
    · rintro i σ H' hi ⟨rfl, _⟩
      exact Lk
    · rintro i x σ H' hx ⟨rfl, u, rfl⟩
      rw [List.getElem?_map] at hx
      obtain ⟨z, hz, rfl⟩ := Option.map_eq_some_iff.mp hx
      have hi : i < 23 := (List.getElem?_eq_some_iff.mp hz).1
      obtain ⟨v, hv⟩ : ∃ v, t.vals[i]? = some v := ⟨_, List.getElem?_eq_getElem (show i < t.vals.length from hi)⟩
      have dg : ∀ {R : Addr → V → Prop}, R p2 v → ∃ a v', V.ref p2 = .ref a ∧ DGet H' a (.str z) (some v') ∧ R a v' := fun q => dgetZ i d2 (by rw [Bool.and_eq_true, decide_eq_true_eq, decide_eq_true_eq]; exact ⟨keysL_nd, hz⟩) hv q
      walk_at "rd"
      refine g2.get i hz hv ?_
      have Lo : SqT K H' t.ord (os.map V.str) := t_of g2.ord
      rcases kindsT gd hz hv with ⟨sz, rfl, ok⟩ | ⟨rfl, rfl, rfl⟩ | ⟨n, rfl, hz2⟩
      · walk_at "rd"
        refine dg ?_
        walk_at "rd"
        refine dg ?_
        walk_at "rd"
        refine g2.get i hz hv ?_
        walk_at "rd"
        refine neD_flat ok ?_
        walk_at "rd"
        exact ⟨_, rfl⟩
      · walk_at "rd"
        refine dg ?_
        walk_at "rd"
        refine dg ?_
        walk_at "rd"
        refine g2.get 21 hz hv ?_
        walk_at "rd"
        refine neD_TT Lo Lo rfl fo2 ?_
        walk_at "rd"
        exact ⟨_, rfl⟩
      · walk_at "rd"
        refine iteS (fun z => absurd z hz2) (fun _ => ?_)
        walk_at "rd"
        refine dg ?_
        walk_at "rd"
        refine dg ?_
        walk_at "rd"
        refine dg ?_
        walk_at "rd"
        refine g2.get i hz hv ?_
        walk_at "rd"
        refine neD_flat rfl ?_
        walk_at "rd"
        exact ⟨_, rfl⟩
    · rintro σ H' ⟨rfl, u, rfl⟩
      walk_at "rd"
      exact q _ s02
theorem _law_alike_go (T : Txt w K mg) {H : Hp} {Q : VK} {E : XK} {c p : Addr} {t : TM} {os : List Str} (h1 : TermsAt K T.c_Terms H c t os) (h2 : TermD H p t os) (q : ∀ H', Same H H' → Q (.bl true) H') : sp__law_alike T [.ref c, .ref p] H Q E := by
  unfold sp__law_alike
  exact ⟨c, p, t, os, rfl, h1, h2, q⟩

/-! ### law -/
theorem TermD.keepL {H H' : Hp} {p D : Addr} {t : TM} {os : List Str} {acc : List V} (g : TermD H p t os) (e : H D = some (.lst acc)) (k : ∀ b o, b ≠ D → H b = some o → H' b = some o) : TermD H' p t os :=
  ⟨k _ _ (fun z => by have := g.at_; rw [z, e] at this; cases this) g.at_, k _ _ (fun z => by have := g.ord; rw [z, e] at this; cases this) g.ord, g.good, g.cal, g.rule, g.conv, g.mode, g.scheme, g.few, g.oks⟩
theorem TermsAt.keepL {K : PySem.W.Frag} {C : Addr} {H H' : Hp} {c D : Addr} {t : TM} {os : List Str} {acc : List V} (g : TermsAt K C H c t os) (e : H D = some (.lst acc)) (k : ∀ b o, b ≠ D → H b = some o → H' b = some o) : TermsAt K C H' c t os := by
  obtain ⟨⟨dx, i⟩, o, gd⟩ := g
  refine ⟨⟨dx, k _ _ (fun z => by rw [z, e] at i; cases i) i⟩, ?_, gd⟩
  rcases o with h | h
  · rcases h with h | ⟨o, h⟩
    · exact .inl (.inl (k _ _ (fun z => by rw [z, e] at h; cases h) h))
    · exact .inl (.inr ⟨o, k _ _ (fun z => by rw [z, e] at h; cases h) h⟩)
  · exact .inr h
/-- the text of the law -/
def shW (x : TX3) : Str := Txt.join "\n" (allLW x.2.1 x.2.2)
def shP (x : TX3) : Str := prodP x.2.1 x.2.2
theorem sh_eq {x : TX3} {os : List Str} (g : GoodT x.2.1) (hc : x.2.1.cal = "" → x.2.1.rule = "none") (go : x.2.2.Perm usualO) : shP x = shW x := by
  unfold shP shW prodP
  rw [all_eq g hc go]
theorem map_of {α β γ : Type} {xs : List α} {zs : List β} {f : α → γ} {h : β → γ} (hl : zs.length = xs.length) (hr : ∀ (j : Nat) (z : β), zs[j]? = some z → ∃ x, xs[j]? = some x ∧ h z = f x) : zs.map h = xs.map f := by
  refine List.ext_getElem? fun i => ?_
  rw [List.getElem?_map, List.getElem?_map]
  by_cases c : i < xs.length
  · have c2 : i < zs.length := by omega
    obtain ⟨x, h1, h2⟩ := hr i _ (List.getElem?_eq_getElem c2)
    rw [List.getElem?_eq_getElem c2, h1]
    show some _ = some _
    rw [h2]
  · rw [List.getElem?_eq_none (by omega), List.getElem?_eq_none (by omega)]
    rfl
theorem ok_law (T : Txt w K mg) : FnOk P w K mg base (L2.CX P w) 12 T.a_law T.fd_law ["script"] (sp_law K) := by
  refine T.F_law.ok sc_law (fun vs H Q E h => ?_) (fun cdv A outer s H vs Q E hr h => ?_)
  · obtain ⟨l, ns, rfl, _⟩ := h
    rfl
  · obtain ⟨l0, ns, rfl, hs, hn, hb, q⟩ := h
    refine ⟨_, (pss_cons (ps_set (i := 1) sc_law.nd rfl (Or.inl rfl) (pe_op op_add pe_int (pe_op op_mod (pe_callTy call_int1 rfl T.z_int bt_int (pa_cons (pe_callS (ok__law_cell T) (hr.mono (by decide)) rfl T.m__law_cell T.F__law_cell.kp T.b__law_cell (fun σ => passAt (takes_of rfl rfl rfl rfl) σ) (pa_cons (pv 0) (pa_cons pe_int pa_nil))) pa_nil)) pe_int)))
    (pss_cons (ps_setLc (i := 2) (own := [("k", 3)]) (tt := tYes) rfl sc_law.nd rfl rfl (sw_true rfl rfl rfl (by decide +kernel)) (pi_range1 rfl T.z_range (pa_cons (pv 1) pa_nil)) (blkOk_by (own := [("k", 3)]) (N := ["script", "count", "fields", "k", "products", "f", "texts", "actual", "given", "joined", "cents", "rate", "amount", "percent"]) (sc := defScope s_law) (by decide +kernel)) (fun _ _ _ _ _ => (pg_name (i := 3) sc_law.nd rfl (Or.inl rfl))) (fun _ _ _ _ _ => pts_nil) (fun _ _ _ _ _ => (pe_callS (ok__law_fields T) (hr.mono (by decide)) rfl T.m__law_fields T.F__law_fields.kp T.b__law_fields (fun σ => passXS σ) (pa_cons (pe_op op_add (pe_callS (ok__law_cell T) (hr.mono (by decide)) rfl T.m__law_cell T.F__law_cell.kp T.b__law_cell (fun σ => passXS σ) (pa_cons (pv 0) (pa_cons (pe_op op_add pe_int (pv 3)) pa_nil))) (pv 3)) (pa_cons (pe_op op_addS pe_str (pe_callTy call_strI rfl T.z_str bt_str (pa_cons (pv 3) pa_nil))) pa_nil)))))
    (pss_cons (ps_setLc (i := 4) (own := [("f", 5)]) (tt := tYes) rfl sc_law.nd rfl rfl (sw_true rfl rfl rfl (by decide +kernel)) (pi_list (pv 2)) (blkOk_by (own := [("f", 5)]) (N := ["script", "count", "fields", "k", "products", "f", "texts", "actual", "given", "joined", "cents", "rate", "amount", "percent"]) (sc := defScope s_law) (by decide +kernel)) (fun _ _ _ _ _ => (pg_name (i := 5) sc_law.nd rfl (Or.inl rfl))) (fun _ _ _ _ _ => pts_nil) (fun _ _ _ _ _ => (pe_callS (ok__law_terms T) (hr.mono (by decide)) rfl T.m__law_terms T.F__law_terms.kp T.b__law_terms (fun σ => passXS σ) (pa_cons (pv 5) pa_nil))))
    (pss_cons (ps_setLc (i := 6) (own := [("f", 5)]) (tt := tYes) rfl sc_law.nd rfl rfl (sw_true rfl rfl rfl (by decide +kernel)) (pi_list (pv 2)) (blkOk_by (own := [("f", 5)]) (N := ["script", "count", "fields", "k", "products", "f", "texts", "actual", "given", "joined", "cents", "rate", "amount", "percent"]) (sc := defScope s_law) (by decide +kernel)) (fun _ _ _ _ _ => (pg_name (i := 5) sc_law.nd rfl (Or.inl rfl))) (fun _ _ _ _ _ => pts_nil) (fun _ _ _ _ _ => (pe_callS (ok__law_shown T) (hr.mono (by decide)) rfl T.m__law_shown T.F__law_shown.kp T.b__law_shown (fun σ => passXS σ) (pa_cons (pv 5) pa_nil))))
    (pss_cons (ps_for (passes_of rfl) rfl (pi_range1 rfl T.z_range (pa_cons (pv 1) pa_nil)) (pg_name (i := 3) sc_law.nd rfl (Or.inl rfl))
      (pss_cons (ps_set (i := 7) sc_law.nd rfl (Or.inl rfl) (pe_callS (ok_show_product T) (hr.mono (by decide)) rfl T.m_show_product T.F_show_product.kp T.b_show_product (fun σ => passAt (takes_of rfl rfl rfl rfl) σ) (pa_cons (pe_ix ix_list (pv 4) (pv 3) (fun _ _ => rfl)) pa_nil)))
      (pss_one (ps_if (PW.pt (pw_or (pt_not (pt_val (pe_callB call_is rfl T.z_isinstance bt_isinstance (pa_cons (pv 7) (pa_cons (pe_bltn (v := .ty "str") rfl T.z_str bt_str rfl) pa_nil))))) (pw_or (pt_cmpR op_ne (pv 7) (pe_ix ix_list (pv 6) (pv 3) (fun _ _ => rfl)) (nomark _)) (pw_or1 (pt_not (pt_val (pe_callS (ok__law_alike T) (hr.mono (by decide)) rfl T.m__law_alike T.F__law_alike.kp T.b__law_alike (fun σ => passAt (takes_of rfl rfl rfl rfl) σ) (pa_cons (pe_ix ix_list (pv 4) (pv 3) (fun _ _ => rfl)) (pa_cons (pe_ix ix_list (pv 2) (pv 3) (fun _ _ => rfl)) pa_nil))))))))) (pss_one (ps_ret pe_bl)) pss_nil))))
    (pss_cons (ps_set (i := 8) sc_law.nd rfl (Or.inl rfl) (pe_callTy call_lo rfl T.z_list bt_list (pa_cons (pv 4) pa_nil)))
    (pss_cons (ps_set (i := 9) sc_law.nd rfl (Or.inl rfl) (pe_callS (ok_show_products T) (hr.mono (by decide)) rfl T.m_show_products T.F_show_products.kp T.b_show_products (fun σ => passAt (takes_of rfl rfl rfl rfl) σ) (pa_cons (pv 8) pa_nil)))
    (pss_cons (ps_if (PW.pt (pw_or (pt_not (pt_val (pe_callB call_is rfl T.z_isinstance bt_isinstance (pa_cons (pv 9) (pa_cons (pe_bltn (v := .ty "str") rfl T.z_str bt_str rfl) pa_nil))))) (pw_or (pt_cmpR op_ne (pv 9) (pe_m1 PySem.F.slot_str_join PySem.F.type_str_join mt_joinS pe_str (pv 6)) (nomark _)) (pw_or1 (pt_cmpR op_ne (pe_callB call_ln rfl T.z_len bt_len (pa_cons (pv 8) pa_nil)) (pv 1) (nomark _)))))) (pss_one (ps_ret pe_bl)) pss_nil)
    (pss_cons (ps_set (i := 10) sc_law.nd rfl (Or.inl rfl) (pe_op op_sub (pe_op op_mod (pe_callTy call_int1 rfl T.z_int bt_int (pa_cons (pe_callS (ok__law_cell T) (hr.mono (by decide)) rfl T.m__law_cell T.F__law_cell.kp T.b__law_cell (fun σ => passAt (takes_of rfl rfl rfl rfl) σ) (pa_cons (pv 0) (pa_cons pe_int pa_nil))) pa_nil)) pe_int) pe_int))
    (pss_cons (ps_cut (ps_if (pt_cmpR op_eq (pe_op op_mod (pe_op op_fdivB (pe_callTy call_int1 rfl T.z_int bt_int (pa_cons (pe_callS (ok__law_cell T) (hr.mono (by decide)) rfl T.m__law_cell T.F__law_cell.kp T.b__law_cell (fun σ => passAt (takes_of rfl rfl rfl rfl) σ) (pa_cons (pv 0) (pa_cons pe_int pa_nil))) pa_nil)) pe_int) pe_int) pe_int (nomark _)) (pss_one (ps_set (i := 10) sc_law.nd rfl (Or.inl rfl) (pe_op op_sub (pe_op op_mod (pe_callTy call_int1 rfl T.z_int bt_int (pa_cons (pe_callS (ok__law_cell T) (hr.mono (by decide)) rfl T.m__law_cell T.F__law_cell.kp T.b__law_cell (fun σ => passAt (takes_of rfl rfl rfl rfl) σ) (pa_cons (pv 0) (pa_cons pe_int pa_nil))) pa_nil)) pe_int) pe_int))) pss_nil))
    (pss_cons (ps_set (i := 11) sc_law.nd rfl (Or.inl rfl) (pe_op op_mod (pe_callTy call_int1 rfl T.z_int bt_int (pa_cons (pe_callS (ok__law_cell T) (hr.mono (by decide)) rfl T.m__law_cell T.F__law_cell.kp T.b__law_cell (fun σ => passAt (takes_of rfl rfl rfl rfl) σ) (pa_cons (pv 0) (pa_cons pe_int pa_nil))) pa_nil)) pe_int))
    (pss_cons (ps_cut (ps_if (pt_cmpR op_eq (pe_op op_mod (pe_op op_fdivB (pe_callTy call_int1 rfl T.z_int bt_int (pa_cons (pe_callS (ok__law_cell T) (hr.mono (by decide)) rfl T.m__law_cell T.F__law_cell.kp T.b__law_cell (fun σ => passAt (takes_of rfl rfl rfl rfl) σ) (pa_cons (pv 0) (pa_cons pe_int pa_nil))) pa_nil)) pe_int) pe_int) pe_int (nomark _)) (pss_one (ps_set (i := 11) sc_law.nd rfl (Or.inl rfl) (pe_op op_mulB (pe_op op_fdivB (pv 11) pe_int) pe_int))) pss_nil))
    (pss_cons (ps_set (i := 12) sc_law.nd rfl (Or.inl rfl) (pe_callS (ok_show_amount T) (hr.mono (by decide)) rfl T.m_show_amount T.F_show_amount.kp T.b_show_amount (fun σ => passAt (takes_of rfl rfl rfl rfl) σ) (pa_cons (pv 10) pa_nil)))
    (pss_cons (ps_set (i := 13) sc_law.nd rfl (Or.inl rfl) (pe_callS (ok_show_percent T) (hr.mono (by decide)) rfl T.m_show_percent T.F_show_percent.kp T.b_show_percent (fun σ => passAt (takes_of rfl rfl rfl rfl) σ) (pa_cons (pv 11) pa_nil)))
    (pss_cons (ps_if (PW.pt (pw_or (pt_not (pt_val (pe_callB call_is rfl T.z_isinstance bt_isinstance (pa_cons (pv 12) (pa_cons (pe_bltn (v := .ty "str") rfl T.z_str bt_str rfl) pa_nil))))) (pw_or1 (pt_not (pt_val (pe_callB call_is rfl T.z_isinstance bt_isinstance (pa_cons (pv 13) (pa_cons (pe_bltn (v := .ty "str") rfl T.z_str bt_str rfl) pa_nil)))))))) (pss_one (ps_ret pe_bl)) pss_nil)
    (pss_one (ps_ret (pe_and (pe_cmpR op_eq (pv 12) (pe_callS (ok__law_money T) (hr.mono (by decide)) rfl T.m__law_money T.F__law_money.kp T.b__law_money (fun σ => passAt (takes_of rfl rfl rfl rfl) σ) (pa_cons (pv 10) pa_nil)) (nomark _)) (pe_and (pe_cmpR op_eq (pv 13) (pe_callS (ok__law_rate T) (hr.mono (by decide)) rfl T.m__law_rate T.F__law_rate.kp T.b__law_rate (fun σ => passAt (takes_of rfl rfl rfl rfl) σ) (pa_cons (pv 11) pa_nil)) (nomark _)) (pe_one (pe_cmpR op_eq (pe_callS (ok_show_products T) (hr.mono (by decide)) rfl T.m_show_products T.F_show_products.kp T.b_show_products (fun σ => passAt (takes_of rfl rfl rfl rfl) σ) (pa_cons (pe_lst pa_nil) pa_nil)) pe_str (nomark _)))))))))))))))))))))), ?_⟩
    walk_at "rd"
    refine ⟨by omega, by omega, fun D nD => lc_rgX (n := (1 + cell ns 0 % 4).toNat) (fun x : TX3 => V.ref x.1) (fun i x H' => TermD H' x.1 x.2.1 x.2.2 ∧ (x.2.1.cal = "" → x.2.1.rule = "none")) nD (by rw [sizeLine_eq]; omega) (fun i x H H' acc e k r => ⟨TermD.keepL r.1 e k, r.2⟩) (fun i H1 N acc hi s1 eD hl k => ?_) fun xs H1 s1 e1 l1 r1 => ?_⟩
    · have hs1 := same_lst s1 hs
      walk_at "rd"
      dsimp only [tNil, tCons, tVar]
      refine cell_at (1 + i) hs1 hn (by omega) (by omega) ?_
      walk_at "rd"
      dsimp only [tNil]
      refine strI_go (log_ok (by omega)) ?_
      walk_at "rd"
      refine _law_fields_go (((cell_sz hb _).add (Sz.mk (n := 6) (i := 0 + (i : Int)) (by omega))).mono (by decide)) (nm_num (z := "p") (w := 6) (i := 0 + (i : Int)) (by decide +kernel) (by omega) (by omega) (by decide) (by decide +kernel)) fun pf Hf t os sf nf gf ef => ?_
      exact ⟨acc, sf _ _ eD, hl, k (pf, t, os) Hf sf ⟨gf, ef.2⟩⟩
    have Kx1 := l_of (K := K) e1
    have hn1 : xs.length ≤ 4 := by omega
    have hmem : ∀ x ∈ xs, TermD H1 x.1 x.2.1 x.2.2 ∧ (x.2.1.cal = "" → x.2.1.rule = "none") := fun x hx => by
      obtain ⟨j, hj⟩ := List.mem_iff_getElem?.mp hx
      exact r1 j x hj
    walk_at "rd"
    refine ⟨⟨_, Kx1⟩, fun D2 nD2 => lc_mpX (ys := xs.map fun x : TX3 => V.ref x.1) (fun c : Addr => V.ref c) (fun i c H' => ∃ x, xs[i]? = some x ∧ TermsAt K T.c_Terms H' c x.2.1 x.2.2) nD2 Kx1 (by rw [List.length_map, sizeLine_eq]; omega) (fun i c H H' acc e k r => by obtain ⟨x, h1, h2⟩ := r; exact ⟨x, h1, TermsAt.keepL h2 e k⟩) (fun i y H2 N acc hy s2 eD hl k => ?_) fun cs H2 s2 e2 l2 r2 => ?_⟩
    · rw [List.getElem?_map] at hy
      obtain ⟨x, hx, rfl⟩ := Option.map_eq_some_iff.mp hy
      walk_at "rd"
      refine _law_terms_go T ((hmem x (List.mem_of_getElem? hx)).1.same s2) fun c H3 s3 nc St => ?_
      exact ⟨acc, s3 _ _ eD, hl, k c H3 s3 ⟨x, hx, St⟩⟩
    have Kx12 := same_lst s2 Kx1
    walk_at "rd"
    refine ⟨⟨_, Kx12⟩, fun D3 nD3 => lc_mpX (ys := xs.map fun x : TX3 => V.ref x.1) (fun z : Str => V.str z) (fun i z H' => ∃ x, xs[i]? = some x ∧ z = shW x) nD3 Kx12 (by rw [List.length_map, sizeLine_eq]; omega) (fun i c H H' acc e k r => r) (fun i y H3 N acc hy s3 eD hl k => ?_) fun zs H3 s3 e3 l3 r3 => ?_⟩
    · rw [List.getElem?_map] at hy
      obtain ⟨x, hx, rfl⟩ := Option.map_eq_some_iff.mp hy
      walk_at "rd"
      refine _law_shown_go ((hmem x (List.mem_of_getElem? hx)).1.same (s2.trans s3)) fun H4 s4 => ?_
      exact ⟨acc, s4 _ _ eD, hl, k (shW x) H4 s4 ⟨x, hx, rfl⟩⟩
    rw [List.length_map] at l2 l3
    have ez : zs = xs.map shW := by
      have := map_of (h := fun z : Str => z) (f := shW) l3 fun j z hz => by obtain ⟨x, h1, h2⟩ := r3 j z hz; exact ⟨x, h1, h2⟩
      rw [List.map_id'] at this
      exact this
    subst ez
    have Kx13 := same_lst (s2.trans s3) Kx1
    have Kx2 := same_lst (K := K) s3 (l_of e2)
    have Kx3 := l_of (K := K) e3
    have hs3 := same_lst (s1.trans (s2.trans s3)) hs
    have sA : Same H1 H3 := s2.trans s3
    have cnt : ∀ k : Nat, k < (1 + cell ns 0 % 4).toNat → ∃ (x : TX3) (c : Addr), x ∈ xs ∧ xs[k]? = some x ∧ cs[k]? = some c ∧ TermsAt K T.c_Terms H2 c x.2.1 x.2.2 := fun k hk => by
      have hc : k < cs.length := by omega
      obtain ⟨x, h1, h2⟩ := r2 k _ (List.getElem?_eq_getElem hc)
      exact ⟨x, cs[k], List.mem_of_getElem? h1, h1, List.getElem?_eq_getElem hc, h2⟩
    walk_at "rd"
    refine ⟨by omega, by omega, for_range (n := (1 + cell ns 0 % 4).toNat) (fun k σ H' => Wall (Same H3 H' ∧ ∃ u3 u7, σ = [some (.ref l0), some (.int (1 + cell ns 0 % 4)), some (.ref D), u3, some (.ref D2), none, some (.ref D3), u7, none, none, none, none, none, none])) (wall ⟨Same.refl _, _, _, rfl⟩) ?_ ?_⟩
    · rintro k σ H' hk ⟨w⟩
      obtain ⟨sk, u3, u7, rfl⟩ := w trivial
      clear w
      obtain ⟨x, c, hx, hx1, hc1, St⟩ := cnt k hk
      obtain ⟨gx, hcr⟩ := hmem x hx
      have gg := good_of gx.good
      have a1 : atI (cs.map V.ref) (0 + (k : Int)) = some (.ref c) := by
        rw [Int.zero_add]
        exact atI_nat (by rw [List.getElem?_map, hc1]; rfl)
      have a2 : atI ((xs.map shW).map V.str) (0 + (k : Int)) = some (.str (shW x)) := by
        rw [Int.zero_add]
        exact atI_nat (by rw [List.getElem?_map, List.getElem?_map, hx1]; rfl)
      have a3 : atI (xs.map fun x : TX3 => V.ref x.1) (0 + (k : Int)) = some (.ref x.1) := by
        rw [Int.zero_add]
        exact atI_nat (by rw [List.getElem?_map, hx1]; rfl)
      have K13k := same_lst sk Kx13
      have K2k := same_lst sk Kx2
      have K3k := same_lst sk Kx3
      have Stk := St.same (s3.trans sk)
      walk_at "rd"
      refine show_product_go T Stk gx.oks fun H4 s4 => ?_
      have K13m := same_lst s4 K13k
      have K2m := same_lst s4 K2k
      have K3m := same_lst s4 K3k
      have eqP : prodP x.2.1 x.2.2 = shW x := sh_eq (os := x.2.2) gg.1 hcr gg.2
      rw [eqP]
      walk_at "rd"
      refine iteSN (fun z => absurd rfl z) (fun _ => ?_)
      walk_at "rd"
      refine _law_alike_go T (Stk.same s4) (gx.same (sA.trans (sk.trans s4))) fun H5 s5 => ?_
      walk_at "rd"
      exact wall ⟨sk.trans (s4.trans s5), _, _, rfl⟩
    rintro σ H4 ⟨w⟩
    obtain ⟨s4, u3, u7, rfl⟩ := w trivial
    clear w
    have K24 := same_lst s4 Kx2
    have K34 := same_lst s4 Kx3
    have hs4 := same_lst s4 hs3
    walk_at "rd"
    rename_i pg npg
    have sg := same_new (o := .lst (cs.map V.ref)) (Same.refl H4) npg
    have hcl : cs.length = xs.length := l2
    obtain ⟨ps, hps⟩ : ∃ ps : List TX3, ps = cs.zip (xs.map fun x => x.2) := ⟨_, rfl⟩
    have hpl : ps.length = xs.length := by rw [hps, List.length_zip, List.length_map, hcl, Nat.min_self]
    have hp1 : ps.map (fun x : TX3 => V.ref x.1) = cs.map V.ref := by
      refine map_of (xs := cs) (zs := ps) (by omega) fun j z hz => ?_
      rw [hps, List.getElem?_zip_eq_some] at hz
      exact ⟨z.1, hz.1, rfl⟩
    have hp2 : ps.map shP = xs.map shW := by
      refine map_of hpl fun j z hz => ?_
      rw [hps, List.getElem?_zip_eq_some, List.getElem?_map] at hz
      obtain ⟨x, h1, h2⟩ := Option.map_eq_some_iff.mp hz.2
      obtain ⟨gx, hcr⟩ := hmem x (List.mem_of_getElem? h1)
      have gg := good_of gx.good
      refine ⟨x, h1, ?_⟩
      rw [← sh_eq (os := x.2.2) gg.1 hcr gg.2]
      unfold shP
      rw [h2]
    have hpm : ∀ z ∈ ps, TermsAt K T.c_Terms (upd H4 pg (.lst (cs.map V.ref))) z.1 z.2.1 z.2.2 ∧ z.2.2.all okS = true := fun z hz => by
      obtain ⟨j, hj⟩ := List.mem_iff_getElem?.mp hz
      rw [hps, List.getElem?_zip_eq_some, List.getElem?_map] at hj
      obtain ⟨x, h1, h2⟩ := r2 j _ hj.1
      obtain ⟨x', h1', h2'⟩ := Option.map_eq_some_iff.mp hj.2
      rw [h1] at h1'
      cases h1'
      rw [h2'] at h2
      refine ⟨h2.same ((s3.trans s4).trans sg), ?_⟩
      have := (hmem x (List.mem_of_getElem? h1)).1.oks
      rw [h2'] at this
      exact this
    refine show_products_go T (xs := ps) (by rw [hp1]; exact l_of upd_same) (by omega) hpm fun H5 s5 => ?_
    have ej : (ps.map fun x => prodP x.2.1 x.2.2) = xs.map shW := hp2
    rw [ej]
    have K35 := same_lst (sg.trans s5) K34
    have hs5 := same_lst (sg.trans s5) hs4
    have Kg5 := same_lst (K := K) s5 (l_of (upd_same (H := H4) (a := pg) (o := .lst (cs.map V.ref))))
    have shl : ∀ z ∈ xs.map shW, z.length ≤ 60000 := fun z hz => by
      obtain ⟨x, hx, rfl⟩ := List.mem_map.mp hz
      obtain ⟨gx, hcr⟩ := hmem x hx
      have gg := good_of gx.good
      rw [← sh_eq (os := x.2.2) gg.1 hcr gg.2]
      exact prodP_len gg.1 gg.2
    have ssum : ((xs.map shW).map (·.length)).sum + (xs.map shW).length * ("\n" : Str).length ≤ 16777216 := by
      have h1 := sum_len_le shl
      have h4 : ("\n" : Str).length = 1 := by decide +kernel
      rw [h4]
      rw [List.length_map] at h1 ⊢
      omega
    have hcn : (((cs.map V.ref).length : Nat) : Int) = 1 + cell ns 0 % 4 := by rw [List.length_map]; omega
    walk_at "rd"
    refine ⟨⟨_, rfl⟩, ?_⟩
    walk_at "rd"
    refine joinS_go K35 ssum ?_
    walk_at "rd"
    refine iteSN (fun z => absurd rfl z) (fun _ => ?_)
    walk_at "rd"
    refine iteIN (fun z => absurd hcn z) (fun _ => ?_)
    walk_at "rd"
    refine ⟨fun σ' H' => Wall (∃ c : Int, H' = H5 ∧ -1000000000000 ≤ c ∧ c ≤ 1000000000000 ∧ σ' = [some (.ref l0), some (.int (1 + cell ns 0 % 4)), some (.ref D), u3, some (.ref D2), none, some (.ref D3), u7, some (.ref pg), some (.str (Txt.join "\n" (xs.map shW))), some (.int c), none, none, none]), ?_, ?_⟩
    · walk_at "rd"
      refine iteI (fun _ => ?_) (fun _ => ?_)
      · walk_at "rd"
        exact wall ⟨_, rfl, by omega, by omega, rfl⟩
      · exact wall ⟨_, rfl, by omega, by omega, rfl⟩
    rintro σ H6 ⟨w⟩
    obtain ⟨c, rfl, c0, c1, rfl⟩ := w trivial
    clear w
    walk_at "rd"
    refine ⟨fun σ' H' => Wall (∃ r : Int, H' = H6 ∧ 0 ≤ r ∧ r ≤ 1000000 ∧ σ' = [some (.ref l0), some (.int (1 + cell ns 0 % 4)), some (.ref D), u3, some (.ref D2), none, some (.ref D3), u7, some (.ref pg), some (.str (Txt.join "\n" (xs.map shW))), some (.int c), some (.int r), none, none]), ?_, ?_⟩
    · have cm : CM (cell ns 6 % 1000001 / 10000) 10000 := CM.of (m := 64) (n := 64) ⟨by omega⟩ ⟨by decide⟩
      walk_at "rd"
      refine iteI (fun _ => ?_) (fun _ => ?_)
      · walk_at "rd"
        exact wall ⟨_, rfl, by omega, by omega, rfl⟩
      · exact wall ⟨_, rfl, by omega, by omega, rfl⟩
    rintro σ H7 ⟨w⟩
    obtain ⟨r, rfl, r0, r9, rfl⟩ := w trivial
    clear w
    walk_at "rd"
    refine show_amount_go (by omega) (by omega) fun H8 s8 => ?_
    walk_at "rd"
    refine show_percent_go r0 r9 fun H9 s9 => ?_
    walk_at "rd"
    refine _law_money_go (by omega) (by omega) ?_
    walk_at "rd"
    refine iteS (fun _ => ?_) (fun z => absurd rfl z)
    walk_at "rd"
    refine _law_rate_go r0 r9 ?_
    walk_at "rd"
    refine iteS (fun _ => ?_) (fun z => absurd rfl z)
    walk_at "rd"
    rename_i pe npe
    refine show_products_go T (xs := []) (l_of upd_same) (by decide) (fun x hx => by cases hx) fun H10 s10 => ?_
    walk_at "rd"
    have e : decide (V.str (Txt.join "\n" (([] : List TX3).map fun x => prodP x.2.1 x.2.2)) = V.str "") = true := by
      rw [decide_eq_true_eq]
      rfl
    rw [e]
    exact q _

end
theorem all_mk {w : World} {K : PySem.W.Frag} {h : Heap} {mg : Str → Option Value} {fa : Addr} (X : K.In h) (G : h.Ns mainGlobals mg) (hfa : mg "law" = some (.ref fa))
    {f__wall : Addr} {oc__wall kV__wall dc__wall pm__wall cd__wall ct__wall : Value} {od__wall an__wall : Option Addr} {sl__wall : Array (Option Value)}
    {f_show_integer : Addr} {oc_show_integer kV_show_integer dc_show_integer pm_show_integer cd_show_integer ct_show_integer : Value} {od_show_integer an_show_integer : Option Addr} {sl_show_integer : Array (Option Value)}
    {f_check_between : Addr} {oc_check_between kV_check_between dc_check_between pm_check_between cd_check_between ct_check_between : Value} {od_check_between an_check_between : Option Addr} {sl_check_between : Array (Option Value)}
    {f_is_lower : Addr} {oc_is_lower kV_is_lower dc_is_lower pm_is_lower cd_is_lower ct_is_lower : Value} {od_is_lower an_is_lower : Option Addr} {sl_is_lower : Array (Option Value)}
    {f_is_digit : Addr} {oc_is_digit kV_is_digit dc_is_digit pm_is_digit cd_is_digit ct_is_digit : Value} {od_is_digit an_is_digit : Option Addr} {sl_is_digit : Array (Option Value)}
    {f_is_name : Addr} {oc_is_name kV_is_name dc_is_name pm_is_name cd_is_name ct_is_name : Value} {od_is_name an_is_name : Option Addr} {sl_is_name : Array (Option Value)}
    {f_check_name : Addr} {oc_check_name kV_check_name dc_check_name pm_check_name cd_check_name ct_check_name : Value} {od_check_name an_check_name : Option Addr} {sl_check_name : Array (Option Value)}
    {f_check_convention : Addr} {oc_check_convention kV_check_convention dc_check_convention pm_check_convention cd_check_convention ct_check_convention : Value} {od_check_convention an_check_convention : Option Addr} {sl_check_convention : Array (Option Value)}
    {f_Terms___init__ D_Terms___init__ qk_Terms___init__ : Addr} {oc_Terms___init__ dc_Terms___init__ pm_Terms___init__ cd_Terms___init__ ct_Terms___init__ : Value} {od_Terms___init__ an_Terms___init__ odk_Terms___init__ : Option Addr} {sl_Terms___init__ slk_Terms___init__ : Array (Option Value)} {itk_Terms___init__ : Array Value} {nk_Terms___init__ : Nat}
    {tkd_Terms___init___every : Tok}
    {tkd_Terms___init___due_on : Tok}
    {tkd_Terms___init___calendar : Tok}
    {tkd_Terms___init___rule : Tok}
    {tkd_Terms___init___index : Tok}
    {tkd_Terms___init___rate : Tok}
    {tkd_Terms___init___lowest : Tok}
    {tkd_Terms___init___highest : Tok}
    {tkd_Terms___init___convention : Tok}
    {tkd_Terms___init___mode : Tok}
    {tkd_Terms___init___scheme : Tok}
    {tkd_Terms___init___free : Tok}
    {tkd_Terms___init___opening_fee : Tok}
    {tkd_Terms___init___opening_part : Tok}
    {tkd_Terms___init___period_fee : Tok}
    {tkd_Terms___init___late_fee : Tok}
    {tkd_Terms___init___grace : Tok}
    {tkd_Terms___init___early_part : Tok}
    {tkd_Terms___init___early_months : Tok}
    {tkd_Terms___init___penalty : Tok}
    {f_Terms_parts : Addr} {oc_Terms_parts kV_Terms_parts dc_Terms_parts pm_Terms_parts cd_Terms_parts ct_Terms_parts : Value} {od_Terms_parts an_Terms_parts : Option Addr} {sl_Terms_parts : Array (Option Value)}
    {f_Terms_copy_of : Addr} {oc_Terms_copy_of kV_Terms_copy_of dc_Terms_copy_of pm_Terms_copy_of cd_Terms_copy_of ct_Terms_copy_of : Value} {od_Terms_copy_of an_Terms_copy_of : Option Addr} {sl_Terms_copy_of : Array (Option Value)}
    {f_Terms_same_as : Addr} {oc_Terms_same_as kV_Terms_same_as dc_Terms_same_as pm_Terms_same_as cd_Terms_same_as ct_Terms_same_as : Value} {od_Terms_same_as an_Terms_same_as : Option Addr} {sl_Terms_same_as : Array (Option Value)}
    {f_check_word : Addr} {oc_check_word kV_check_word dc_check_word pm_check_word cd_check_word ct_check_word : Value} {od_check_word an_check_word : Option Addr} {sl_check_word : Array (Option Value)}
    {f_check_terms : Addr} {oc_check_terms kV_check_terms dc_check_terms pm_check_terms cd_check_terms ct_check_terms : Value} {od_check_terms an_check_terms : Option Addr} {sl_check_terms : Array (Option Value)}
    {f_check_charges : Addr} {oc_check_charges kV_check_charges dc_check_charges pm_check_charges cd_check_charges ct_check_charges : Value} {od_check_charges an_check_charges : Option Addr} {sl_check_charges : Array (Option Value)}
    {f_check_together : Addr} {oc_check_together kV_check_together dc_check_together pm_check_together cd_check_together ct_check_together : Value} {od_check_together an_check_together : Option Addr} {sl_check_together : Array (Option Value)}
    {f_is_late_too_long : Addr} {oc_is_late_too_long kV_is_late_too_long dc_is_late_too_long pm_is_late_too_long cd_is_late_too_long ct_is_late_too_long : Value} {od_is_late_too_long an_is_late_too_long : Option Addr} {sl_is_late_too_long : Array (Option Value)}
    {f_show_amount : Addr} {oc_show_amount kV_show_amount dc_show_amount pm_show_amount cd_show_amount ct_show_amount : Value} {od_show_amount an_show_amount : Option Addr} {sl_show_amount : Array (Option Value)}
    {f_show_percent : Addr} {oc_show_percent kV_show_percent dc_show_percent pm_show_percent cd_show_percent ct_show_percent : Value} {od_show_percent an_show_percent : Option Addr} {sl_show_percent : Array (Option Value)}
    {f_payments_line : Addr} {oc_payments_line kV_payments_line dc_payments_line pm_payments_line cd_payments_line ct_payments_line : Value} {od_payments_line an_payments_line : Option Addr} {sl_payments_line : Array (Option Value)}
    {f_due_line : Addr} {oc_due_line kV_due_line dc_due_line pm_due_line cd_due_line ct_due_line : Value} {od_due_line an_due_line : Option Addr} {sl_due_line : Array (Option Value)}
    {f_rate_line : Addr} {oc_rate_line kV_rate_line dc_rate_line pm_rate_line cd_rate_line ct_rate_line : Value} {od_rate_line an_rate_line : Option Addr} {sl_rate_line : Array (Option Value)}
    {f_opening_line : Addr} {oc_opening_line kV_opening_line dc_opening_line pm_opening_line cd_opening_line ct_opening_line : Value} {od_opening_line an_opening_line : Option Addr} {sl_opening_line : Array (Option Value)}
    {f_clause_lines : Addr} {oc_clause_lines kV_clause_lines dc_clause_lines pm_clause_lines cd_clause_lines ct_clause_lines : Value} {od_clause_lines an_clause_lines : Option Addr} {sl_clause_lines : Array (Option Value)}
    {f_told_fields : Addr} {oc_told_fields kV_told_fields dc_told_fields pm_told_fields cd_told_fields ct_told_fields : Value} {od_told_fields an_told_fields : Option Addr} {sl_told_fields : Array (Option Value)}
    {f_show_product : Addr} {oc_show_product kV_show_product dc_show_product pm_show_product cd_show_product ct_show_product : Value} {od_show_product an_show_product : Option Addr} {sl_show_product : Array (Option Value)}
    {f_show_products : Addr} {oc_show_products kV_show_products dc_show_products pm_show_products cd_show_products ct_show_products : Value} {od_show_products an_show_products : Option Addr} {sl_show_products : Array (Option Value)}
    {f__law_cell : Addr} {oc__law_cell kV__law_cell dc__law_cell pm__law_cell cd__law_cell ct__law_cell : Value} {od__law_cell an__law_cell : Option Addr} {sl__law_cell : Array (Option Value)}
    {f__law_draw : Addr} {oc__law_draw kV__law_draw dc__law_draw pm__law_draw cd__law_draw ct__law_draw : Value} {od__law_draw an__law_draw : Option Addr} {sl__law_draw : Array (Option Value)}
    {f__law_fields : Addr} {oc__law_fields kV__law_fields dc__law_fields pm__law_fields cd__law_fields ct__law_fields : Value} {od__law_fields an__law_fields : Option Addr} {sl__law_fields : Array (Option Value)}
    {f__law_order : Addr} {oc__law_order kV__law_order dc__law_order pm__law_order cd__law_order ct__law_order : Value} {od__law_order an__law_order : Option Addr} {sl__law_order : Array (Option Value)}
    {f__law_keys : Addr} {oc__law_keys kV__law_keys dc__law_keys pm__law_keys cd__law_keys ct__law_keys : Value} {od__law_keys an__law_keys : Option Addr} {sl__law_keys : Array (Option Value)}
    {f__law_terms : Addr} {oc__law_terms kV__law_terms dc__law_terms pm__law_terms cd__law_terms ct__law_terms : Value} {od__law_terms an__law_terms : Option Addr} {sl__law_terms : Array (Option Value)}
    {f__law_read_out : Addr} {oc__law_read_out kV__law_read_out dc__law_read_out pm__law_read_out cd__law_read_out ct__law_read_out : Value} {od__law_read_out an__law_read_out : Option Addr} {sl__law_read_out : Array (Option Value)}
    {f__law_alike : Addr} {oc__law_alike kV__law_alike dc__law_alike pm__law_alike cd__law_alike ct__law_alike : Value} {od__law_alike an__law_alike : Option Addr} {sl__law_alike : Array (Option Value)}
    {f__law_money : Addr} {oc__law_money kV__law_money dc__law_money pm__law_money cd__law_money ct__law_money : Value} {od__law_money an__law_money : Option Addr} {sl__law_money : Array (Option Value)}
    {f__law_rate : Addr} {oc__law_rate kV__law_rate dc__law_rate pm__law_rate cd__law_rate ct__law_rate : Value} {od__law_rate an__law_rate : Option Addr} {sl__law_rate : Array (Option Value)}
    {f__law_clauses : Addr} {oc__law_clauses kV__law_clauses dc__law_clauses pm__law_clauses cd__law_clauses ct__law_clauses : Value} {od__law_clauses an__law_clauses : Option Addr} {sl__law_clauses : Array (Option Value)}
    {f__law_shown : Addr} {oc__law_shown kV__law_shown dc__law_shown pm__law_shown cd__law_shown ct__law_shown : Value} {od__law_shown an__law_shown : Option Addr} {sl__law_shown : Array (Option Value)}
    {f_law : Addr} {oc_law kV_law dc_law pm_law cd_law ct_law : Value} {od_law an_law : Option Addr} {sl_law : Array (Option Value)}
    {c_Terms : Addr}
    {c_BookError : Addr}
    {c_OutOfRange : Addr}
    {fI_OutOfRange cc_OutOfRange cda_OutOfRange N_OutOfRange : Addr} {oc_OutOfRange doc_OutOfRange pm_OutOfRange ct_OutOfRange cl_OutOfRange ccl_OutOfRange : Value} {od_OutOfRange dd_OutOfRange cld_OutOfRange cdd_OutOfRange : Option Addr} {osl_OutOfRange csl_OutOfRange ccs_OutOfRange : Array (Option Value)} {nm_OutOfRange q_OutOfRange file_OutOfRange : Str} {bs_OutOfRange sub_OutOfRange : List Value} {sn_OutOfRange : List Str} {ab_OutOfRange : Bool} {col_OutOfRange : Option Bool} {m0_OutOfRange m1_OutOfRange m2_OutOfRange m3_OutOfRange m5_OutOfRange : Option Value} {vs_OutOfRange : Array Value} {tf_OutOfRange : Tok}
    {c_UnknownName : Addr}
    {fI_UnknownName cc_UnknownName cda_UnknownName N_UnknownName : Addr} {oc_UnknownName doc_UnknownName pm_UnknownName ct_UnknownName cl_UnknownName ccl_UnknownName : Value} {od_UnknownName dd_UnknownName cld_UnknownName cdd_UnknownName : Option Addr} {osl_UnknownName csl_UnknownName ccs_UnknownName : Array (Option Value)} {nm_UnknownName q_UnknownName file_UnknownName : Str} {bs_UnknownName sub_UnknownName : List Value} {sn_UnknownName : List Str} {ab_UnknownName : Bool} {col_UnknownName : Option Bool} {m0_UnknownName m1_UnknownName m2_UnknownName m3_UnknownName m5_UnknownName : Option Value} {vs_UnknownName : Array Value} {tf_UnknownName : Tok}
    {c_BadName : Addr}
    {fI_BadName cc_BadName cda_BadName N_BadName : Addr} {oc_BadName doc_BadName pm_BadName ct_BadName cl_BadName ccl_BadName : Value} {od_BadName dd_BadName cld_BadName cdd_BadName : Option Addr} {osl_BadName csl_BadName ccs_BadName : Array (Option Value)} {nm_BadName q_BadName file_BadName : Str} {bs_BadName sub_BadName : List Value} {sn_BadName : List Str} {ab_BadName : Bool} {col_BadName : Option Bool} {m0_BadName m1_BadName m2_BadName m3_BadName m5_BadName : Option Value} {vs_BadName : Array Value} {tf_BadName : Tok}
    {c_cS : Value} {d_cS : Option Addr} {es_cS : Array DictEntry} {nn_cS : Nat} {sl_cS : Array (Option Value)}
    {tk_LARGE : Tok}
    {tk_DIGITS : Tok}
    {tk_MOST_CENTS : Tok}
    {tk_MOST_RATE : Tok}
    {tk_NAME_LENGTH : Tok}
    {q_RULES : Addr} {od_RULES : Option Addr} {nn_RULES : Nat} {sl_RULES : Array (Option Value)}
    {its_RULES : Array Value}
    {q_PARTS : Addr} {es_PARTS : Array DictEntry} {nn_PARTS : Nat}
    {q_MODES : Addr} {od_MODES : Option Addr} {nn_MODES : Nat} {sl_MODES : Array (Option Value)}
    {its_MODES : Array Value}
    {q_SCHEMES : Addr} {od_SCHEMES : Option Addr} {nn_SCHEMES : Nat} {sl_SCHEMES : Array (Option Value)}
    {its_SCHEMES : Array Value}
    {q_EVERY : Addr} {od_EVERY : Option Addr} {nn_EVERY : Nat} {sl_EVERY : Array (Option Value)}
    {its_EVERY : Array Value}
    {q_USUAL_ORDER : Addr} {od_USUAL_ORDER : Option Addr} {nn_USUAL_ORDER : Nat} {sl_USUAL_ORDER : Array (Option Value)}
    {its_USUAL_ORDER : Array Value}
    {tk_SHORTEST_MONTH : Tok}
    {tk_MOST_COUNT : Tok}
    {tk_MOST_FREE : Tok}
    {tk_MOST_GRACE : Tok}
    {tk_MOST_PART : Tok}
    {q_FIELD_NAMES : Addr} {od_FIELD_NAMES : Option Addr} {nn_FIELD_NAMES : Nat} {sl_FIELD_NAMES : Array (Option Value)}
    {its_FIELD_NAMES : Array Value}
    (a__wall : PySem.W.nsIn K mainGlobals "_wall" = some (some (.ref f__wall)))
    (l__wall : K.lookup f__wall = some ⟨oc__wall, od__wall, .func (PySem.W.fnOf "_wall" "_wall" (defArgs s__wall) (defBody s__wall) (defScope s__wall) .none kV__wall dc__wall pm__wall an__wall cd__wall ct__wall), sl__wall⟩)
    (c__wall : PySem.W.codeIn K cd__wall "_wall" = true)
    (k__wall : PySem.W.keepIn K (.ref f__wall) = true)
    (a_show_integer : PySem.W.nsIn K mainGlobals "show_integer" = some (some (.ref f_show_integer)))
    (l_show_integer : K.lookup f_show_integer = some ⟨oc_show_integer, od_show_integer, .func (PySem.W.fnOf "show_integer" "show_integer" (defArgs s_show_integer) (defBody s_show_integer) (defScope s_show_integer) .none kV_show_integer dc_show_integer pm_show_integer an_show_integer cd_show_integer ct_show_integer), sl_show_integer⟩)
    (c_show_integer : PySem.W.codeIn K cd_show_integer "show_integer" = true)
    (k_show_integer : PySem.W.keepIn K (.ref f_show_integer) = true)
    (a_check_between : PySem.W.nsIn K mainGlobals "check_between" = some (some (.ref f_check_between)))
    (l_check_between : K.lookup f_check_between = some ⟨oc_check_between, od_check_between, .func (PySem.W.fnOf "check_between" "check_between" (defArgs s_check_between) (defBody s_check_between) (defScope s_check_between) .none kV_check_between dc_check_between pm_check_between an_check_between cd_check_between ct_check_between), sl_check_between⟩)
    (c_check_between : PySem.W.codeIn K cd_check_between "check_between" = true)
    (k_check_between : PySem.W.keepIn K (.ref f_check_between) = true)
    (a_is_lower : PySem.W.nsIn K mainGlobals "is_lower" = some (some (.ref f_is_lower)))
    (l_is_lower : K.lookup f_is_lower = some ⟨oc_is_lower, od_is_lower, .func (PySem.W.fnOf "is_lower" "is_lower" (defArgs s_is_lower) (defBody s_is_lower) (defScope s_is_lower) .none kV_is_lower dc_is_lower pm_is_lower an_is_lower cd_is_lower ct_is_lower), sl_is_lower⟩)
    (c_is_lower : PySem.W.codeIn K cd_is_lower "is_lower" = true)
    (k_is_lower : PySem.W.keepIn K (.ref f_is_lower) = true)
    (a_is_digit : PySem.W.nsIn K mainGlobals "is_digit" = some (some (.ref f_is_digit)))
    (l_is_digit : K.lookup f_is_digit = some ⟨oc_is_digit, od_is_digit, .func (PySem.W.fnOf "is_digit" "is_digit" (defArgs s_is_digit) (defBody s_is_digit) (defScope s_is_digit) .none kV_is_digit dc_is_digit pm_is_digit an_is_digit cd_is_digit ct_is_digit), sl_is_digit⟩)
    (c_is_digit : PySem.W.codeIn K cd_is_digit "is_digit" = true)
    (k_is_digit : PySem.W.keepIn K (.ref f_is_digit) = true)
    (a_is_name : PySem.W.nsIn K mainGlobals "is_name" = some (some (.ref f_is_name)))
    (l_is_name : K.lookup f_is_name = some ⟨oc_is_name, od_is_name, .func (PySem.W.fnOf "is_name" "is_name" (defArgs s_is_name) (defBody s_is_name) (defScope s_is_name) .none kV_is_name dc_is_name pm_is_name an_is_name cd_is_name ct_is_name), sl_is_name⟩)
    (c_is_name : PySem.W.codeIn K cd_is_name "is_name" = true)
    (k_is_name : PySem.W.keepIn K (.ref f_is_name) = true)
    (a_check_name : PySem.W.nsIn K mainGlobals "check_name" = some (some (.ref f_check_name)))
    (l_check_name : K.lookup f_check_name = some ⟨oc_check_name, od_check_name, .func (PySem.W.fnOf "check_name" "check_name" (defArgs s_check_name) (defBody s_check_name) (defScope s_check_name) .none kV_check_name dc_check_name pm_check_name an_check_name cd_check_name ct_check_name), sl_check_name⟩)
    (c_check_name : PySem.W.codeIn K cd_check_name "check_name" = true)
    (k_check_name : PySem.W.keepIn K (.ref f_check_name) = true)
    (a_check_convention : PySem.W.nsIn K mainGlobals "check_convention" = some (some (.ref f_check_convention)))
    (l_check_convention : K.lookup f_check_convention = some ⟨oc_check_convention, od_check_convention, .func (PySem.W.fnOf "check_convention" "check_convention" (defArgs s_check_convention) (defBody s_check_convention) (defScope s_check_convention) .none kV_check_convention dc_check_convention pm_check_convention an_check_convention cd_check_convention ct_check_convention), sl_check_convention⟩)
    (c_check_convention : PySem.W.codeIn K cd_check_convention "check_convention" = true)
    (k_check_convention : PySem.W.keepIn K (.ref f_check_convention) = true)
    (a_Terms___init__ : PySem.W.findIn K (.ref c_Terms) "__init__" = some (some (.ref f_Terms___init__)))
    (l_Terms___init__ : K.lookup f_Terms___init__ = some ⟨oc_Terms___init__, od_Terms___init__, .func (PySem.W.fnOf "__init__" "Terms.__init__" (defArgs s_Terms___init__) (defBody s_Terms___init__) (defScope s_Terms___init__) .none (.ref D_Terms___init__) dc_Terms___init__ pm_Terms___init__ an_Terms___init__ cd_Terms___init__ ct_Terms___init__), sl_Terms___init__⟩)
    (c_Terms___init__ : PySem.W.codeIn K cd_Terms___init__ "Terms.__init__" = true)
    (k_Terms___init__ : PySem.W.keepIn K (.ref f_Terms___init__) = true)
    (kd_Terms___init___every : PySem.W.nsIn K D_Terms___init__ "every" = some (some (.int 1 tkd_Terms___init___every)))
    (kd_Terms___init___due_on : PySem.W.nsIn K D_Terms___init__ "due_on" = some (some (.int 1 tkd_Terms___init___due_on)))
    (kd_Terms___init___calendar : PySem.W.nsIn K D_Terms___init__ "calendar" = some (some (.str "" tkd_Terms___init___calendar)))
    (kd_Terms___init___rule : PySem.W.nsIn K D_Terms___init__ "rule" = some (some (.str "none" tkd_Terms___init___rule)))
    (kd_Terms___init___index : PySem.W.nsIn K D_Terms___init__ "index" = some (some (.str "" tkd_Terms___init___index)))
    (kd_Terms___init___rate : PySem.W.nsIn K D_Terms___init__ "rate" = some (some (.int 0 tkd_Terms___init___rate)))
    (kd_Terms___init___lowest : PySem.W.nsIn K D_Terms___init__ "lowest" = some (some (.int 0 tkd_Terms___init___lowest)))
    (kd_Terms___init___highest : PySem.W.nsIn K D_Terms___init__ "highest" = some (some (.int 1000000 tkd_Terms___init___highest)))
    (kd_Terms___init___convention : PySem.W.nsIn K D_Terms___init__ "convention" = some (some (.str "actual/365" tkd_Terms___init___convention)))
    (kd_Terms___init___mode : PySem.W.nsIn K D_Terms___init__ "mode" = some (some (.str "near" tkd_Terms___init___mode)))
    (kd_Terms___init___scheme : PySem.W.nsIn K D_Terms___init__ "scheme" = some (some (.str "annuity" tkd_Terms___init___scheme)))
    (kd_Terms___init___free : PySem.W.nsIn K D_Terms___init__ "free" = some (some (.int 0 tkd_Terms___init___free)))
    (kd_Terms___init___opening_fee : PySem.W.nsIn K D_Terms___init__ "opening_fee" = some (some (.int 0 tkd_Terms___init___opening_fee)))
    (kd_Terms___init___opening_part : PySem.W.nsIn K D_Terms___init__ "opening_part" = some (some (.int 0 tkd_Terms___init___opening_part)))
    (kd_Terms___init___period_fee : PySem.W.nsIn K D_Terms___init__ "period_fee" = some (some (.int 0 tkd_Terms___init___period_fee)))
    (kd_Terms___init___late_fee : PySem.W.nsIn K D_Terms___init__ "late_fee" = some (some (.int 0 tkd_Terms___init___late_fee)))
    (kd_Terms___init___grace : PySem.W.nsIn K D_Terms___init__ "grace" = some (some (.int 5 tkd_Terms___init___grace)))
    (kd_Terms___init___early_part : PySem.W.nsIn K D_Terms___init__ "early_part" = some (some (.int 0 tkd_Terms___init___early_part)))
    (kd_Terms___init___early_months : PySem.W.nsIn K D_Terms___init__ "early_months" = some (some (.int 0 tkd_Terms___init___early_months)))
    (kd_Terms___init___order : PySem.W.nsIn K D_Terms___init__ "order" = some (some (.ref qk_Terms___init__)))
    (kd_Terms___init___penalty : PySem.W.nsIn K D_Terms___init__ "penalty" = some (some (.int 0 tkd_Terms___init___penalty)))
    (lk_Terms___init__ : K.lookup qk_Terms___init__ = some ⟨.type "tuple", odk_Terms___init__, .seq itk_Terms___init__ nk_Terms___init__, slk_Terms___init__⟩)
    (uk_Terms___init__ : valsB [.str "fees", .str "interest", .str "principal"] itk_Terms___init__.toList = true)
    (i_Terms___init__ : PySem.W.isFn K (.ref f_Terms___init__) = true)
    (a_Terms_parts : PySem.W.findIn K (.ref c_Terms) "parts" = some (some (.ref f_Terms_parts)))
    (l_Terms_parts : K.lookup f_Terms_parts = some ⟨oc_Terms_parts, od_Terms_parts, .func (PySem.W.fnOf "parts" "Terms.parts" (defArgs s_Terms_parts) (defBody s_Terms_parts) (defScope s_Terms_parts) .none kV_Terms_parts dc_Terms_parts pm_Terms_parts an_Terms_parts cd_Terms_parts ct_Terms_parts), sl_Terms_parts⟩)
    (c_Terms_parts : PySem.W.codeIn K cd_Terms_parts "Terms.parts" = true)
    (k_Terms_parts : PySem.W.keepIn K (.ref f_Terms_parts) = true)
    (i_Terms_parts : PySem.W.isFn K (.ref f_Terms_parts) = true)
    (a_Terms_copy_of : PySem.W.findIn K (.ref c_Terms) "copy_of" = some (some (.ref f_Terms_copy_of)))
    (l_Terms_copy_of : K.lookup f_Terms_copy_of = some ⟨oc_Terms_copy_of, od_Terms_copy_of, .func (PySem.W.fnOf "copy_of" "Terms.copy_of" (defArgs s_Terms_copy_of) (defBody s_Terms_copy_of) (defScope s_Terms_copy_of) .none kV_Terms_copy_of dc_Terms_copy_of pm_Terms_copy_of an_Terms_copy_of cd_Terms_copy_of ct_Terms_copy_of), sl_Terms_copy_of⟩)
    (c_Terms_copy_of : PySem.W.codeIn K cd_Terms_copy_of "Terms.copy_of" = true)
    (k_Terms_copy_of : PySem.W.keepIn K (.ref f_Terms_copy_of) = true)
    (i_Terms_copy_of : PySem.W.isFn K (.ref f_Terms_copy_of) = true)
    (a_Terms_same_as : PySem.W.findIn K (.ref c_Terms) "same_as" = some (some (.ref f_Terms_same_as)))
    (l_Terms_same_as : K.lookup f_Terms_same_as = some ⟨oc_Terms_same_as, od_Terms_same_as, .func (PySem.W.fnOf "same_as" "Terms.same_as" (defArgs s_Terms_same_as) (defBody s_Terms_same_as) (defScope s_Terms_same_as) .none kV_Terms_same_as dc_Terms_same_as pm_Terms_same_as an_Terms_same_as cd_Terms_same_as ct_Terms_same_as), sl_Terms_same_as⟩)
    (c_Terms_same_as : PySem.W.codeIn K cd_Terms_same_as "Terms.same_as" = true)
    (k_Terms_same_as : PySem.W.keepIn K (.ref f_Terms_same_as) = true)
    (i_Terms_same_as : PySem.W.isFn K (.ref f_Terms_same_as) = true)
    (a_check_word : PySem.W.nsIn K mainGlobals "check_word" = some (some (.ref f_check_word)))
    (l_check_word : K.lookup f_check_word = some ⟨oc_check_word, od_check_word, .func (PySem.W.fnOf "check_word" "check_word" (defArgs s_check_word) (defBody s_check_word) (defScope s_check_word) .none kV_check_word dc_check_word pm_check_word an_check_word cd_check_word ct_check_word), sl_check_word⟩)
    (c_check_word : PySem.W.codeIn K cd_check_word "check_word" = true)
    (k_check_word : PySem.W.keepIn K (.ref f_check_word) = true)
    (a_check_terms : PySem.W.nsIn K mainGlobals "check_terms" = some (some (.ref f_check_terms)))
    (l_check_terms : K.lookup f_check_terms = some ⟨oc_check_terms, od_check_terms, .func (PySem.W.fnOf "check_terms" "check_terms" (defArgs s_check_terms) (defBody s_check_terms) (defScope s_check_terms) .none kV_check_terms dc_check_terms pm_check_terms an_check_terms cd_check_terms ct_check_terms), sl_check_terms⟩)
    (c_check_terms : PySem.W.codeIn K cd_check_terms "check_terms" = true)
    (k_check_terms : PySem.W.keepIn K (.ref f_check_terms) = true)
    (a_check_charges : PySem.W.nsIn K mainGlobals "check_charges" = some (some (.ref f_check_charges)))
    (l_check_charges : K.lookup f_check_charges = some ⟨oc_check_charges, od_check_charges, .func (PySem.W.fnOf "check_charges" "check_charges" (defArgs s_check_charges) (defBody s_check_charges) (defScope s_check_charges) .none kV_check_charges dc_check_charges pm_check_charges an_check_charges cd_check_charges ct_check_charges), sl_check_charges⟩)
    (c_check_charges : PySem.W.codeIn K cd_check_charges "check_charges" = true)
    (k_check_charges : PySem.W.keepIn K (.ref f_check_charges) = true)
    (a_check_together : PySem.W.nsIn K mainGlobals "check_together" = some (some (.ref f_check_together)))
    (l_check_together : K.lookup f_check_together = some ⟨oc_check_together, od_check_together, .func (PySem.W.fnOf "check_together" "check_together" (defArgs s_check_together) (defBody s_check_together) (defScope s_check_together) .none kV_check_together dc_check_together pm_check_together an_check_together cd_check_together ct_check_together), sl_check_together⟩)
    (c_check_together : PySem.W.codeIn K cd_check_together "check_together" = true)
    (k_check_together : PySem.W.keepIn K (.ref f_check_together) = true)
    (a_is_late_too_long : PySem.W.nsIn K mainGlobals "is_late_too_long" = some (some (.ref f_is_late_too_long)))
    (l_is_late_too_long : K.lookup f_is_late_too_long = some ⟨oc_is_late_too_long, od_is_late_too_long, .func (PySem.W.fnOf "is_late_too_long" "is_late_too_long" (defArgs s_is_late_too_long) (defBody s_is_late_too_long) (defScope s_is_late_too_long) .none kV_is_late_too_long dc_is_late_too_long pm_is_late_too_long an_is_late_too_long cd_is_late_too_long ct_is_late_too_long), sl_is_late_too_long⟩)
    (c_is_late_too_long : PySem.W.codeIn K cd_is_late_too_long "is_late_too_long" = true)
    (k_is_late_too_long : PySem.W.keepIn K (.ref f_is_late_too_long) = true)
    (a_show_amount : PySem.W.nsIn K mainGlobals "show_amount" = some (some (.ref f_show_amount)))
    (l_show_amount : K.lookup f_show_amount = some ⟨oc_show_amount, od_show_amount, .func (PySem.W.fnOf "show_amount" "show_amount" (defArgs s_show_amount) (defBody s_show_amount) (defScope s_show_amount) .none kV_show_amount dc_show_amount pm_show_amount an_show_amount cd_show_amount ct_show_amount), sl_show_amount⟩)
    (c_show_amount : PySem.W.codeIn K cd_show_amount "show_amount" = true)
    (k_show_amount : PySem.W.keepIn K (.ref f_show_amount) = true)
    (a_show_percent : PySem.W.nsIn K mainGlobals "show_percent" = some (some (.ref f_show_percent)))
    (l_show_percent : K.lookup f_show_percent = some ⟨oc_show_percent, od_show_percent, .func (PySem.W.fnOf "show_percent" "show_percent" (defArgs s_show_percent) (defBody s_show_percent) (defScope s_show_percent) .none kV_show_percent dc_show_percent pm_show_percent an_show_percent cd_show_percent ct_show_percent), sl_show_percent⟩)
    (c_show_percent : PySem.W.codeIn K cd_show_percent "show_percent" = true)
    (k_show_percent : PySem.W.keepIn K (.ref f_show_percent) = true)
    (a_payments_line : PySem.W.nsIn K mainGlobals "payments_line" = some (some (.ref f_payments_line)))
    (l_payments_line : K.lookup f_payments_line = some ⟨oc_payments_line, od_payments_line, .func (PySem.W.fnOf "payments_line" "payments_line" (defArgs s_payments_line) (defBody s_payments_line) (defScope s_payments_line) .none kV_payments_line dc_payments_line pm_payments_line an_payments_line cd_payments_line ct_payments_line), sl_payments_line⟩)
    (c_payments_line : PySem.W.codeIn K cd_payments_line "payments_line" = true)
    (k_payments_line : PySem.W.keepIn K (.ref f_payments_line) = true)
    (a_due_line : PySem.W.nsIn K mainGlobals "due_line" = some (some (.ref f_due_line)))
    (l_due_line : K.lookup f_due_line = some ⟨oc_due_line, od_due_line, .func (PySem.W.fnOf "due_line" "due_line" (defArgs s_due_line) (defBody s_due_line) (defScope s_due_line) .none kV_due_line dc_due_line pm_due_line an_due_line cd_due_line ct_due_line), sl_due_line⟩)
    (c_due_line : PySem.W.codeIn K cd_due_line "due_line" = true)
    (k_due_line : PySem.W.keepIn K (.ref f_due_line) = true)
    (a_rate_line : PySem.W.nsIn K mainGlobals "rate_line" = some (some (.ref f_rate_line)))
    (l_rate_line : K.lookup f_rate_line = some ⟨oc_rate_line, od_rate_line, .func (PySem.W.fnOf "rate_line" "rate_line" (defArgs s_rate_line) (defBody s_rate_line) (defScope s_rate_line) .none kV_rate_line dc_rate_line pm_rate_line an_rate_line cd_rate_line ct_rate_line), sl_rate_line⟩)
    (c_rate_line : PySem.W.codeIn K cd_rate_line "rate_line" = true)
    (k_rate_line : PySem.W.keepIn K (.ref f_rate_line) = true)
    (a_opening_line : PySem.W.nsIn K mainGlobals "opening_line" = some (some (.ref f_opening_line)))
    (l_opening_line : K.lookup f_opening_line = some ⟨oc_opening_line, od_opening_line, .func (PySem.W.fnOf "opening_line" "opening_line" (defArgs s_opening_line) (defBody s_opening_line) (defScope s_opening_line) .none kV_opening_line dc_opening_line pm_opening_line an_opening_line cd_opening_line ct_opening_line), sl_opening_line⟩)
    (c_opening_line : PySem.W.codeIn K cd_opening_line "opening_line" = true)
    (k_opening_line : PySem.W.keepIn K (.ref f_opening_line) = true)
    (a_clause_lines : PySem.W.nsIn K mainGlobals "clause_lines" = some (some (.ref f_clause_lines)))
    (l_clause_lines : K.lookup f_clause_lines = some ⟨oc_clause_lines, od_clause_lines, .func (PySem.W.fnOf "clause_lines" "clause_lines" (defArgs s_clause_lines) (defBody s_clause_lines) (defScope s_clause_lines) .none kV_clause_lines dc_clause_lines pm_clause_lines an_clause_lines cd_clause_lines ct_clause_lines), sl_clause_lines⟩)
    (c_clause_lines : PySem.W.codeIn K cd_clause_lines "clause_lines" = true)
    (k_clause_lines : PySem.W.keepIn K (.ref f_clause_lines) = true)
    (a_told_fields : PySem.W.nsIn K mainGlobals "told_fields" = some (some (.ref f_told_fields)))
    (l_told_fields : K.lookup f_told_fields = some ⟨oc_told_fields, od_told_fields, .func (PySem.W.fnOf "told_fields" "told_fields" (defArgs s_told_fields) (defBody s_told_fields) (defScope s_told_fields) .none kV_told_fields dc_told_fields pm_told_fields an_told_fields cd_told_fields ct_told_fields), sl_told_fields⟩)
    (c_told_fields : PySem.W.codeIn K cd_told_fields "told_fields" = true)
    (k_told_fields : PySem.W.keepIn K (.ref f_told_fields) = true)
    (a_show_product : PySem.W.nsIn K mainGlobals "show_product" = some (some (.ref f_show_product)))
    (l_show_product : K.lookup f_show_product = some ⟨oc_show_product, od_show_product, .func (PySem.W.fnOf "show_product" "show_product" (defArgs s_show_product) (defBody s_show_product) (defScope s_show_product) .none kV_show_product dc_show_product pm_show_product an_show_product cd_show_product ct_show_product), sl_show_product⟩)
    (c_show_product : PySem.W.codeIn K cd_show_product "show_product" = true)
    (k_show_product : PySem.W.keepIn K (.ref f_show_product) = true)
    (a_show_products : PySem.W.nsIn K mainGlobals "show_products" = some (some (.ref f_show_products)))
    (l_show_products : K.lookup f_show_products = some ⟨oc_show_products, od_show_products, .func (PySem.W.fnOf "show_products" "show_products" (defArgs s_show_products) (defBody s_show_products) (defScope s_show_products) .none kV_show_products dc_show_products pm_show_products an_show_products cd_show_products ct_show_products), sl_show_products⟩)
    (c_show_products : PySem.W.codeIn K cd_show_products "show_products" = true)
    (k_show_products : PySem.W.keepIn K (.ref f_show_products) = true)
    (a__law_cell : PySem.W.nsIn K mainGlobals "_law_cell" = some (some (.ref f__law_cell)))
    (l__law_cell : K.lookup f__law_cell = some ⟨oc__law_cell, od__law_cell, .func (PySem.W.fnOf "_law_cell" "_law_cell" (defArgs s__law_cell) (defBody s__law_cell) (defScope s__law_cell) .none kV__law_cell dc__law_cell pm__law_cell an__law_cell cd__law_cell ct__law_cell), sl__law_cell⟩)
    (c__law_cell : PySem.W.codeIn K cd__law_cell "_law_cell" = true)
    (k__law_cell : PySem.W.keepIn K (.ref f__law_cell) = true)
    (a__law_draw : PySem.W.nsIn K mainGlobals "_law_draw" = some (some (.ref f__law_draw)))
    (l__law_draw : K.lookup f__law_draw = some ⟨oc__law_draw, od__law_draw, .func (PySem.W.fnOf "_law_draw" "_law_draw" (defArgs s__law_draw) (defBody s__law_draw) (defScope s__law_draw) .none kV__law_draw dc__law_draw pm__law_draw an__law_draw cd__law_draw ct__law_draw), sl__law_draw⟩)
    (c__law_draw : PySem.W.codeIn K cd__law_draw "_law_draw" = true)
    (k__law_draw : PySem.W.keepIn K (.ref f__law_draw) = true)
    (a__law_fields : PySem.W.nsIn K mainGlobals "_law_fields" = some (some (.ref f__law_fields)))
    (l__law_fields : K.lookup f__law_fields = some ⟨oc__law_fields, od__law_fields, .func (PySem.W.fnOf "_law_fields" "_law_fields" (defArgs s__law_fields) (defBody s__law_fields) (defScope s__law_fields) .none kV__law_fields dc__law_fields pm__law_fields an__law_fields cd__law_fields ct__law_fields), sl__law_fields⟩)
    (c__law_fields : PySem.W.codeIn K cd__law_fields "_law_fields" = true)
    (k__law_fields : PySem.W.keepIn K (.ref f__law_fields) = true)
    (a__law_order : PySem.W.nsIn K mainGlobals "_law_order" = some (some (.ref f__law_order)))
    (l__law_order : K.lookup f__law_order = some ⟨oc__law_order, od__law_order, .func (PySem.W.fnOf "_law_order" "_law_order" (defArgs s__law_order) (defBody s__law_order) (defScope s__law_order) .none kV__law_order dc__law_order pm__law_order an__law_order cd__law_order ct__law_order), sl__law_order⟩)
    (c__law_order : PySem.W.codeIn K cd__law_order "_law_order" = true)
    (k__law_order : PySem.W.keepIn K (.ref f__law_order) = true)
    (a__law_keys : PySem.W.nsIn K mainGlobals "_law_keys" = some (some (.ref f__law_keys)))
    (l__law_keys : K.lookup f__law_keys = some ⟨oc__law_keys, od__law_keys, .func (PySem.W.fnOf "_law_keys" "_law_keys" (defArgs s__law_keys) (defBody s__law_keys) (defScope s__law_keys) .none kV__law_keys dc__law_keys pm__law_keys an__law_keys cd__law_keys ct__law_keys), sl__law_keys⟩)
    (c__law_keys : PySem.W.codeIn K cd__law_keys "_law_keys" = true)
    (k__law_keys : PySem.W.keepIn K (.ref f__law_keys) = true)
    (a__law_terms : PySem.W.nsIn K mainGlobals "_law_terms" = some (some (.ref f__law_terms)))
    (l__law_terms : K.lookup f__law_terms = some ⟨oc__law_terms, od__law_terms, .func (PySem.W.fnOf "_law_terms" "_law_terms" (defArgs s__law_terms) (defBody s__law_terms) (defScope s__law_terms) .none kV__law_terms dc__law_terms pm__law_terms an__law_terms cd__law_terms ct__law_terms), sl__law_terms⟩)
    (c__law_terms : PySem.W.codeIn K cd__law_terms "_law_terms" = true)
    (k__law_terms : PySem.W.keepIn K (.ref f__law_terms) = true)
    (a__law_read_out : PySem.W.nsIn K mainGlobals "_law_read_out" = some (some (.ref f__law_read_out)))
    (l__law_read_out : K.lookup f__law_read_out = some ⟨oc__law_read_out, od__law_read_out, .func (PySem.W.fnOf "_law_read_out" "_law_read_out" (defArgs s__law_read_out) (defBody s__law_read_out) (defScope s__law_read_out) .none kV__law_read_out dc__law_read_out pm__law_read_out an__law_read_out cd__law_read_out ct__law_read_out), sl__law_read_out⟩)
    (c__law_read_out : PySem.W.codeIn K cd__law_read_out "_law_read_out" = true)
    (k__law_read_out : PySem.W.keepIn K (.ref f__law_read_out) = true)
    (a__law_alike : PySem.W.nsIn K mainGlobals "_law_alike" = some (some (.ref f__law_alike)))
    (l__law_alike : K.lookup f__law_alike = some ⟨oc__law_alike, od__law_alike, .func (PySem.W.fnOf "_law_alike" "_law_alike" (defArgs s__law_alike) (defBody s__law_alike) (defScope s__law_alike) .none kV__law_alike dc__law_alike pm__law_alike an__law_alike cd__law_alike ct__law_alike), sl__law_alike⟩)
    (c__law_alike : PySem.W.codeIn K cd__law_alike "_law_alike" = true)
    (k__law_alike : PySem.W.keepIn K (.ref f__law_alike) = true)
    (a__law_money : PySem.W.nsIn K mainGlobals "_law_money" = some (some (.ref f__law_money)))
    (l__law_money : K.lookup f__law_money = some ⟨oc__law_money, od__law_money, .func (PySem.W.fnOf "_law_money" "_law_money" (defArgs s__law_money) (defBody s__law_money) (defScope s__law_money) .none kV__law_money dc__law_money pm__law_money an__law_money cd__law_money ct__law_money), sl__law_money⟩)
    (c__law_money : PySem.W.codeIn K cd__law_money "_law_money" = true)
    (k__law_money : PySem.W.keepIn K (.ref f__law_money) = true)
    (a__law_rate : PySem.W.nsIn K mainGlobals "_law_rate" = some (some (.ref f__law_rate)))
    (l__law_rate : K.lookup f__law_rate = some ⟨oc__law_rate, od__law_rate, .func (PySem.W.fnOf "_law_rate" "_law_rate" (defArgs s__law_rate) (defBody s__law_rate) (defScope s__law_rate) .none kV__law_rate dc__law_rate pm__law_rate an__law_rate cd__law_rate ct__law_rate), sl__law_rate⟩)
    (c__law_rate : PySem.W.codeIn K cd__law_rate "_law_rate" = true)
    (k__law_rate : PySem.W.keepIn K (.ref f__law_rate) = true)
    (a__law_clauses : PySem.W.nsIn K mainGlobals "_law_clauses" = some (some (.ref f__law_clauses)))
    (l__law_clauses : K.lookup f__law_clauses = some ⟨oc__law_clauses, od__law_clauses, .func (PySem.W.fnOf "_law_clauses" "_law_clauses" (defArgs s__law_clauses) (defBody s__law_clauses) (defScope s__law_clauses) .none kV__law_clauses dc__law_clauses pm__law_clauses an__law_clauses cd__law_clauses ct__law_clauses), sl__law_clauses⟩)
    (c__law_clauses : PySem.W.codeIn K cd__law_clauses "_law_clauses" = true)
    (k__law_clauses : PySem.W.keepIn K (.ref f__law_clauses) = true)
    (a__law_shown : PySem.W.nsIn K mainGlobals "_law_shown" = some (some (.ref f__law_shown)))
    (l__law_shown : K.lookup f__law_shown = some ⟨oc__law_shown, od__law_shown, .func (PySem.W.fnOf "_law_shown" "_law_shown" (defArgs s__law_shown) (defBody s__law_shown) (defScope s__law_shown) .none kV__law_shown dc__law_shown pm__law_shown an__law_shown cd__law_shown ct__law_shown), sl__law_shown⟩)
    (c__law_shown : PySem.W.codeIn K cd__law_shown "_law_shown" = true)
    (k__law_shown : PySem.W.keepIn K (.ref f__law_shown) = true)
    (a_law : PySem.W.nsIn K mainGlobals "law" = some (some (.ref f_law)))
    (l_law : K.lookup f_law = some ⟨oc_law, od_law, .func (PySem.W.fnOf "law" "law" (defArgs s_law) (defBody s_law) (defScope s_law) .none kV_law dc_law pm_law an_law cd_law ct_law), sl_law⟩)
    (c_law : PySem.W.codeIn K cd_law "law" = true)
    (k_law : PySem.W.keepIn K (.ref f_law) = true)
    (a_Terms : PySem.W.nsIn K mainGlobals "Terms" = some (some (.ref c_Terms)))
    (pg_Terms : PySem.W.plainGet K c_Terms Str.empty = true)
    (hd_Terms : PySem.W.hasDictIn K c_Terms = true)
    (po_Terms : PySem.W.plainOver K c_Terms = true)
    (sa_Terms : PySem.W.findIn K (.ref c_Terms) "__setattr__" = some (some (.builtin "object.__setattr__")))
    (mks_Terms : PySem.W.makesIn K c_Terms = true)
    (kc_Terms : PySem.W.keepIn K (.ref c_Terms) = true)
    (na_Terms_name : PySem.W.findIn K (.ref c_Terms) "name" = some none)
    (na_Terms_count : PySem.W.findIn K (.ref c_Terms) "count" = some none)
    (na_Terms_every : PySem.W.findIn K (.ref c_Terms) "every" = some none)
    (na_Terms_due_on : PySem.W.findIn K (.ref c_Terms) "due_on" = some none)
    (na_Terms_calendar : PySem.W.findIn K (.ref c_Terms) "calendar" = some none)
    (na_Terms_rule : PySem.W.findIn K (.ref c_Terms) "rule" = some none)
    (na_Terms_index : PySem.W.findIn K (.ref c_Terms) "index" = some none)
    (na_Terms_rate : PySem.W.findIn K (.ref c_Terms) "rate" = some none)
    (na_Terms_lowest : PySem.W.findIn K (.ref c_Terms) "lowest" = some none)
    (na_Terms_highest : PySem.W.findIn K (.ref c_Terms) "highest" = some none)
    (na_Terms_convention : PySem.W.findIn K (.ref c_Terms) "convention" = some none)
    (na_Terms_mode : PySem.W.findIn K (.ref c_Terms) "mode" = some none)
    (na_Terms_scheme : PySem.W.findIn K (.ref c_Terms) "scheme" = some none)
    (na_Terms_free : PySem.W.findIn K (.ref c_Terms) "free" = some none)
    (na_Terms_opening_fee : PySem.W.findIn K (.ref c_Terms) "opening_fee" = some none)
    (na_Terms_opening_part : PySem.W.findIn K (.ref c_Terms) "opening_part" = some none)
    (na_Terms_period_fee : PySem.W.findIn K (.ref c_Terms) "period_fee" = some none)
    (na_Terms_late_fee : PySem.W.findIn K (.ref c_Terms) "late_fee" = some none)
    (na_Terms_grace : PySem.W.findIn K (.ref c_Terms) "grace" = some none)
    (na_Terms_early_part : PySem.W.findIn K (.ref c_Terms) "early_part" = some none)
    (na_Terms_early_months : PySem.W.findIn K (.ref c_Terms) "early_months" = some none)
    (na_Terms_order : PySem.W.findIn K (.ref c_Terms) "order" = some none)
    (na_Terms_penalty : PySem.W.findIn K (.ref c_Terms) "penalty" = some none)
    (third : PySem.W.nsIn K cStatics "thirdparty.any" = some none)
    (zsuper : PySem.W.nsIn K mainGlobals "super" = some none)
    (spc : PySem.W.specialIn K (.builtin "object.__class__") "__get__" = some (some (.builtin "getset_descriptor.__get__")))
    (tkc : PySem.W.takesIn K (.builtin "object.__class__") = some true)
    (a_BookError : PySem.W.nsIn K mainGlobals "BookError" = some (some (.ref c_BookError)))
    (ga_BookError : PySem.W.findIn K (.ref c_BookError) "__getattribute__" = some (some (.builtin "BaseException.__getattribute__")))
    (gg_BookError : PySem.W.findIn K (.ref c_BookError) "__getattr__" = some none)
    (sb_BookError : PySem.W.subIn K (.ref c_BookError) (.type "BaseException") = some true)
    (hd_BookError : PySem.W.hasDictIn K c_BookError = true)
    (ha_BookError : PySem.W.findIn K (.ref c_BookError) "__class__" = some (some (.builtin "object.__class__")))
    (hm_BookError : PySem.W.mroIn K c_BookError (.type "object") = some true)
    (ty_BookError : PySem.W.typeIn K (.ref c_BookError) = some (.type "type"))
    (se_BookError : PySem.W.mroIn K c_BookError (.ref c_BookError) = some true)
    (a_OutOfRange : PySem.W.nsIn K mainGlobals "OutOfRange" = some (some (.ref c_OutOfRange)))
    (ga_OutOfRange : PySem.W.findIn K (.ref c_OutOfRange) "__getattribute__" = some (some (.builtin "BaseException.__getattribute__")))
    (gg_OutOfRange : PySem.W.findIn K (.ref c_OutOfRange) "__getattr__" = some none)
    (sb_OutOfRange : PySem.W.subIn K (.ref c_OutOfRange) (.type "BaseException") = some true)
    (hd_OutOfRange : PySem.W.hasDictIn K c_OutOfRange = true)
    (ha_OutOfRange : PySem.W.findIn K (.ref c_OutOfRange) "__class__" = some (some (.builtin "object.__class__")))
    (hm_OutOfRange : PySem.W.mroIn K c_OutOfRange (.type "object") = some true)
    (ty_OutOfRange : PySem.W.typeIn K (.ref c_OutOfRange) = some (.type "type"))
    (se_OutOfRange : PySem.W.mroIn K c_OutOfRange (.ref c_OutOfRange) = some true)
    (xL_OutOfRange : K.lookup c_OutOfRange = some (excClassObj nm_OutOfRange q_OutOfRange c_OutOfRange N_OutOfRange bs_OutOfRange [.ref c_BookError, .type "ValueError", .type "Exception", .type "BaseException", .type "object"] true sn_OutOfRange sub_OutOfRange ab_OutOfRange col_OutOfRange dd_OutOfRange m0_OutOfRange m1_OutOfRange m2_OutOfRange m3_OutOfRange m5_OutOfRange "ValueError.__new__"))
    (sa_OutOfRange : PySem.W.findIn K (.ref c_OutOfRange) "__setattr__" = some (some (.builtin "object.__setattr__")))
    (kp_OutOfRange : PySem.W.keepIn K (.ref c_OutOfRange) = true)
    (i_OutOfRange : PySem.W.findIn K (.ref c_OutOfRange) "__init__" = some (some (.ref fI_OutOfRange)))
    (ti_OutOfRange : PySem.W.typeIn K (.ref fI_OutOfRange) = some (.type "function"))
    (li_OutOfRange : K.lookup fI_OutOfRange = some ⟨oc_OutOfRange, od_OutOfRange, .func ((⟨"__init__", "OutOfRange.__init__", defArgs s_OutOfRange, defBody s_OutOfRange, defScope s_OutOfRange, [(("__class__" : Str), cc_OutOfRange)], cda_OutOfRange⟩ : NdefX.NF).fd doc_OutOfRange pm_OutOfRange ct_OutOfRange), osl_OutOfRange⟩)
    (ci_OutOfRange : PySem.W.codeIn K (.ref cda_OutOfRange) "OutOfRange.__init__" = true)
    (ce_OutOfRange : K.lookup cc_OutOfRange = some ⟨cl_OutOfRange, cld_OutOfRange, .cell (some (.ref c_OutOfRange)), csl_OutOfRange⟩)
    (co_OutOfRange : K.lookup cda_OutOfRange = some ⟨ccl_OutOfRange, cdd_OutOfRange, .fields vs_OutOfRange, ccs_OutOfRange⟩)
    (vs_OutOfRange : vs_OutOfRange[2]? = some (.str file_OutOfRange tf_OutOfRange))
    (fi_OutOfRange : ((P.main.file : Str) == file_OutOfRange) = true)
    (su_OutOfRange : PySem.W.ks_superIn K c_OutOfRange c_OutOfRange "__init__" = some (some (.builtin "ValueError.__init__")))
    (ve_OutOfRange : PySem.W.subIn K (.ref c_OutOfRange) (.type "ValueError") = some true)
    (n_OutOfRange_label : PySem.W.findIn K (.ref c_OutOfRange) "label" = some none)
    (n_OutOfRange_value : PySem.W.findIn K (.ref c_OutOfRange) "value" = some none)
    (a_UnknownName : PySem.W.nsIn K mainGlobals "UnknownName" = some (some (.ref c_UnknownName)))
    (ga_UnknownName : PySem.W.findIn K (.ref c_UnknownName) "__getattribute__" = some (some (.builtin "BaseException.__getattribute__")))
    (gg_UnknownName : PySem.W.findIn K (.ref c_UnknownName) "__getattr__" = some none)
    (sb_UnknownName : PySem.W.subIn K (.ref c_UnknownName) (.type "BaseException") = some true)
    (hd_UnknownName : PySem.W.hasDictIn K c_UnknownName = true)
    (ha_UnknownName : PySem.W.findIn K (.ref c_UnknownName) "__class__" = some (some (.builtin "object.__class__")))
    (hm_UnknownName : PySem.W.mroIn K c_UnknownName (.type "object") = some true)
    (ty_UnknownName : PySem.W.typeIn K (.ref c_UnknownName) = some (.type "type"))
    (se_UnknownName : PySem.W.mroIn K c_UnknownName (.ref c_UnknownName) = some true)
    (xL_UnknownName : K.lookup c_UnknownName = some (excClassObj nm_UnknownName q_UnknownName c_UnknownName N_UnknownName bs_UnknownName [.ref c_BookError, .type "ValueError", .type "Exception", .type "BaseException", .type "object"] true sn_UnknownName sub_UnknownName ab_UnknownName col_UnknownName dd_UnknownName m0_UnknownName m1_UnknownName m2_UnknownName m3_UnknownName m5_UnknownName "ValueError.__new__"))
    (sa_UnknownName : PySem.W.findIn K (.ref c_UnknownName) "__setattr__" = some (some (.builtin "object.__setattr__")))
    (kp_UnknownName : PySem.W.keepIn K (.ref c_UnknownName) = true)
    (i_UnknownName : PySem.W.findIn K (.ref c_UnknownName) "__init__" = some (some (.ref fI_UnknownName)))
    (ti_UnknownName : PySem.W.typeIn K (.ref fI_UnknownName) = some (.type "function"))
    (li_UnknownName : K.lookup fI_UnknownName = some ⟨oc_UnknownName, od_UnknownName, .func ((⟨"__init__", "UnknownName.__init__", defArgs s_UnknownName, defBody s_UnknownName, defScope s_UnknownName, [(("__class__" : Str), cc_UnknownName)], cda_UnknownName⟩ : NdefX.NF).fd doc_UnknownName pm_UnknownName ct_UnknownName), osl_UnknownName⟩)
    (ci_UnknownName : PySem.W.codeIn K (.ref cda_UnknownName) "UnknownName.__init__" = true)
    (ce_UnknownName : K.lookup cc_UnknownName = some ⟨cl_UnknownName, cld_UnknownName, .cell (some (.ref c_UnknownName)), csl_UnknownName⟩)
    (co_UnknownName : K.lookup cda_UnknownName = some ⟨ccl_UnknownName, cdd_UnknownName, .fields vs_UnknownName, ccs_UnknownName⟩)
    (vs_UnknownName : vs_UnknownName[2]? = some (.str file_UnknownName tf_UnknownName))
    (fi_UnknownName : ((P.main.file : Str) == file_UnknownName) = true)
    (su_UnknownName : PySem.W.ks_superIn K c_UnknownName c_UnknownName "__init__" = some (some (.builtin "ValueError.__init__")))
    (ve_UnknownName : PySem.W.subIn K (.ref c_UnknownName) (.type "ValueError") = some true)
    (n_UnknownName_label : PySem.W.findIn K (.ref c_UnknownName) "label" = some none)
    (n_UnknownName_name : PySem.W.findIn K (.ref c_UnknownName) "name" = some none)
    (a_BadName : PySem.W.nsIn K mainGlobals "BadName" = some (some (.ref c_BadName)))
    (ga_BadName : PySem.W.findIn K (.ref c_BadName) "__getattribute__" = some (some (.builtin "BaseException.__getattribute__")))
    (gg_BadName : PySem.W.findIn K (.ref c_BadName) "__getattr__" = some none)
    (sb_BadName : PySem.W.subIn K (.ref c_BadName) (.type "BaseException") = some true)
    (hd_BadName : PySem.W.hasDictIn K c_BadName = true)
    (ha_BadName : PySem.W.findIn K (.ref c_BadName) "__class__" = some (some (.builtin "object.__class__")))
    (hm_BadName : PySem.W.mroIn K c_BadName (.type "object") = some true)
    (ty_BadName : PySem.W.typeIn K (.ref c_BadName) = some (.type "type"))
    (se_BadName : PySem.W.mroIn K c_BadName (.ref c_BadName) = some true)
    (xL_BadName : K.lookup c_BadName = some (excClassObj nm_BadName q_BadName c_BadName N_BadName bs_BadName [.ref c_BookError, .type "ValueError", .type "Exception", .type "BaseException", .type "object"] true sn_BadName sub_BadName ab_BadName col_BadName dd_BadName m0_BadName m1_BadName m2_BadName m3_BadName m5_BadName "ValueError.__new__"))
    (sa_BadName : PySem.W.findIn K (.ref c_BadName) "__setattr__" = some (some (.builtin "object.__setattr__")))
    (kp_BadName : PySem.W.keepIn K (.ref c_BadName) = true)
    (i_BadName : PySem.W.findIn K (.ref c_BadName) "__init__" = some (some (.ref fI_BadName)))
    (ti_BadName : PySem.W.typeIn K (.ref fI_BadName) = some (.type "function"))
    (li_BadName : K.lookup fI_BadName = some ⟨oc_BadName, od_BadName, .func ((⟨"__init__", "BadName.__init__", defArgs s_BadName, defBody s_BadName, defScope s_BadName, [(("__class__" : Str), cc_BadName)], cda_BadName⟩ : NdefX.NF).fd doc_BadName pm_BadName ct_BadName), osl_BadName⟩)
    (ci_BadName : PySem.W.codeIn K (.ref cda_BadName) "BadName.__init__" = true)
    (ce_BadName : K.lookup cc_BadName = some ⟨cl_BadName, cld_BadName, .cell (some (.ref c_BadName)), csl_BadName⟩)
    (co_BadName : K.lookup cda_BadName = some ⟨ccl_BadName, cdd_BadName, .fields vs_BadName, ccs_BadName⟩)
    (vs_BadName : vs_BadName[2]? = some (.str file_BadName tf_BadName))
    (fi_BadName : ((P.main.file : Str) == file_BadName) = true)
    (su_BadName : PySem.W.ks_superIn K c_BadName c_BadName "__init__" = some (some (.builtin "ValueError.__init__")))
    (ve_BadName : PySem.W.subIn K (.ref c_BadName) (.type "ValueError") = some true)
    (n_BadName_label : PySem.W.findIn K (.ref c_BadName) "label" = some none)
    (n_BadName_name : PySem.W.findIn K (.ref c_BadName) "name" = some none)
    (y_BookError_BookError : PySem.W.subIn K (.ref c_BookError) (.ref c_BookError) = some true)
    (y_BookError_OutOfRange : PySem.W.subIn K (.ref c_BookError) (.ref c_OutOfRange) = some false)
    (y_BookError_UnknownName : PySem.W.subIn K (.ref c_BookError) (.ref c_UnknownName) = some false)
    (y_BookError_BadName : PySem.W.subIn K (.ref c_BookError) (.ref c_BadName) = some false)
    (yv_BookError : PySem.W.subIn K (.ref c_BookError) (.type "ValueError") = some true)
    (y_OutOfRange_BookError : PySem.W.subIn K (.ref c_OutOfRange) (.ref c_BookError) = some true)
    (y_OutOfRange_OutOfRange : PySem.W.subIn K (.ref c_OutOfRange) (.ref c_OutOfRange) = some true)
    (y_OutOfRange_UnknownName : PySem.W.subIn K (.ref c_OutOfRange) (.ref c_UnknownName) = some false)
    (y_OutOfRange_BadName : PySem.W.subIn K (.ref c_OutOfRange) (.ref c_BadName) = some false)
    (yv_OutOfRange : PySem.W.subIn K (.ref c_OutOfRange) (.type "ValueError") = some true)
    (y_UnknownName_BookError : PySem.W.subIn K (.ref c_UnknownName) (.ref c_BookError) = some true)
    (y_UnknownName_OutOfRange : PySem.W.subIn K (.ref c_UnknownName) (.ref c_OutOfRange) = some false)
    (y_UnknownName_UnknownName : PySem.W.subIn K (.ref c_UnknownName) (.ref c_UnknownName) = some true)
    (y_UnknownName_BadName : PySem.W.subIn K (.ref c_UnknownName) (.ref c_BadName) = some false)
    (yv_UnknownName : PySem.W.subIn K (.ref c_UnknownName) (.type "ValueError") = some true)
    (y_BadName_BookError : PySem.W.subIn K (.ref c_BadName) (.ref c_BookError) = some true)
    (y_BadName_OutOfRange : PySem.W.subIn K (.ref c_BadName) (.ref c_OutOfRange) = some false)
    (y_BadName_UnknownName : PySem.W.subIn K (.ref c_BadName) (.ref c_UnknownName) = some false)
    (y_BadName_BadName : PySem.W.subIn K (.ref c_BadName) (.ref c_BadName) = some true)
    (yv_BadName : PySem.W.subIn K (.ref c_BadName) (.type "ValueError") = some true)
    (ndo : K.lookup cStatics = some ⟨c_cS, d_cS, .dict es_cS nn_cS, sl_cS⟩)
    (ndk : es_cS.toList.all keyStr = true)
    (ndn : PySem.W.nsIn K cStatics "sys.int_max_str_digits" = some none)
    (a_LARGE : PySem.W.nsIn K mainGlobals "LARGE" = some (some (.int 1000000000000000000 tk_LARGE)))
    (a_DIGITS : PySem.W.nsIn K mainGlobals "DIGITS" = some (some (.int 18 tk_DIGITS)))
    (a_MOST_CENTS : PySem.W.nsIn K mainGlobals "MOST_CENTS" = some (some (.int 1000000000000 tk_MOST_CENTS)))
    (a_MOST_RATE : PySem.W.nsIn K mainGlobals "MOST_RATE" = some (some (.int 1000000 tk_MOST_RATE)))
    (a_NAME_LENGTH : PySem.W.nsIn K mainGlobals "NAME_LENGTH" = some (some (.int 12 tk_NAME_LENGTH)))
    (a_RULES : PySem.W.nsIn K mainGlobals "RULES" = some (some (.ref q_RULES)))
    (l_RULES : K.lookup q_RULES = some ⟨.type "tuple", od_RULES, .seq its_RULES nn_RULES, sl_RULES⟩)
    (u_RULES : valsB v_RULES its_RULES.toList = true)
    (a_PARTS : PySem.W.nsIn K mainGlobals "PARTS" = some (some (.ref q_PARTS)))
    (l_PARTS : K.lookup q_PARTS = some ⟨.type "dict", none, .dict es_PARTS nn_PARTS, #[]⟩)
    (kl_PARTS : PySem.W.KeysLit w.params es_PARTS.toList)
    (u_PARTS : dictB kv_PARTS es_PARTS.toList = true)
    (lo_PARTS : (q_PARTS == sysModules) = false)
    (a_MODES : PySem.W.nsIn K mainGlobals "MODES" = some (some (.ref q_MODES)))
    (l_MODES : K.lookup q_MODES = some ⟨.type "tuple", od_MODES, .seq its_MODES nn_MODES, sl_MODES⟩)
    (u_MODES : valsB v_MODES its_MODES.toList = true)
    (a_SCHEMES : PySem.W.nsIn K mainGlobals "SCHEMES" = some (some (.ref q_SCHEMES)))
    (l_SCHEMES : K.lookup q_SCHEMES = some ⟨.type "tuple", od_SCHEMES, .seq its_SCHEMES nn_SCHEMES, sl_SCHEMES⟩)
    (u_SCHEMES : valsB v_SCHEMES its_SCHEMES.toList = true)
    (a_EVERY : PySem.W.nsIn K mainGlobals "EVERY" = some (some (.ref q_EVERY)))
    (l_EVERY : K.lookup q_EVERY = some ⟨.type "tuple", od_EVERY, .seq its_EVERY nn_EVERY, sl_EVERY⟩)
    (u_EVERY : valsB v_EVERY its_EVERY.toList = true)
    (a_USUAL_ORDER : PySem.W.nsIn K mainGlobals "USUAL_ORDER" = some (some (.ref q_USUAL_ORDER)))
    (l_USUAL_ORDER : K.lookup q_USUAL_ORDER = some ⟨.type "tuple", od_USUAL_ORDER, .seq its_USUAL_ORDER nn_USUAL_ORDER, sl_USUAL_ORDER⟩)
    (u_USUAL_ORDER : valsB v_USUAL_ORDER its_USUAL_ORDER.toList = true)
    (a_SHORTEST_MONTH : PySem.W.nsIn K mainGlobals "SHORTEST_MONTH" = some (some (.int 28 tk_SHORTEST_MONTH)))
    (a_MOST_COUNT : PySem.W.nsIn K mainGlobals "MOST_COUNT" = some (some (.int 480 tk_MOST_COUNT)))
    (a_MOST_FREE : PySem.W.nsIn K mainGlobals "MOST_FREE" = some (some (.int 479 tk_MOST_FREE)))
    (a_MOST_GRACE : PySem.W.nsIn K mainGlobals "MOST_GRACE" = some (some (.int 90 tk_MOST_GRACE)))
    (a_MOST_PART : PySem.W.nsIn K mainGlobals "MOST_PART" = some (some (.int 1000 tk_MOST_PART)))
    (a_FIELD_NAMES : PySem.W.nsIn K mainGlobals "FIELD_NAMES" = some (some (.ref q_FIELD_NAMES)))
    (l_FIELD_NAMES : K.lookup q_FIELD_NAMES = some ⟨.type "tuple", od_FIELD_NAMES, .seq its_FIELD_NAMES nn_FIELD_NAMES, sl_FIELD_NAMES⟩)
    (u_FIELD_NAMES : valsB v_FIELD_NAMES its_FIELD_NAMES.toList = true)
    (z_str : PySem.W.nsIn K mainGlobals "str" = some none)
    (z_divmod : PySem.W.nsIn K mainGlobals "divmod" = some none)
    (z_len : PySem.W.nsIn K mainGlobals "len" = some none)
    (z_tuple : PySem.W.nsIn K mainGlobals "tuple" = some none)
    (z_sorted : PySem.W.nsIn K mainGlobals "sorted" = some none)
    (z_zip : PySem.W.nsIn K mainGlobals "zip" = some none)
    (z_any : PySem.W.nsIn K mainGlobals "any" = some none)
    (z_abs : PySem.W.nsIn K mainGlobals "abs" = some none)
    (z_range : PySem.W.nsIn K mainGlobals "range" = some none)
    (z_int : PySem.W.nsIn K mainGlobals "int" = some none)
    (z_min : PySem.W.nsIn K mainGlobals "min" = some none)
    (z_max : PySem.W.nsIn K mainGlobals "max" = some none)
    (z_isinstance : PySem.W.nsIn K mainGlobals "isinstance" = some none)
    (z_bool : PySem.W.nsIn K mainGlobals "bool" = some none)
    (z_list : PySem.W.nsIn K mainGlobals "list" = some none)
    : ∃ fd : FuncData, (∀ (s : Shared) (u : Value), BindsTo s fd ⟨[u], []⟩ [("script", u)]) ∧ ∀ base : Heap, K.In base → base.Ns mainGlobals mg → FnOk P w K mg base (L2.CX P w) 12 fa fd ["script"] (sp_law K) := by
  let T : Txt w K mg := {
    a__wall := f__wall, fd__wall := _, F__wall := fun_of l__wall c__wall k__wall, m__wall := PySem.W.mg_of X G a__wall, b__wall := (fun_of l__wall c__wall k__wall).bindsN fun _ _ _ _ _ _ us hl => match us, hl with | [_], _ => rfl,
    a_show_integer := f_show_integer, fd_show_integer := _, F_show_integer := fun_of l_show_integer c_show_integer k_show_integer, m_show_integer := PySem.W.mg_of X G a_show_integer, b_show_integer := (fun_of l_show_integer c_show_integer k_show_integer).bindsN fun _ _ _ _ _ _ us hl => match us, hl with | [_], _ => rfl,
    a_check_between := f_check_between, fd_check_between := _, F_check_between := fun_of l_check_between c_check_between k_check_between, m_check_between := PySem.W.mg_of X G a_check_between, b_check_between := (fun_of l_check_between c_check_between k_check_between).bindsN fun _ _ _ _ _ _ us hl => match us, hl with | [_, _, _], _ => rfl,
    a_is_lower := f_is_lower, fd_is_lower := _, F_is_lower := fun_of l_is_lower c_is_lower k_is_lower, m_is_lower := PySem.W.mg_of X G a_is_lower, b_is_lower := (fun_of l_is_lower c_is_lower k_is_lower).bindsN fun _ _ _ _ _ _ us hl => match us, hl with | [_], _ => rfl,
    a_is_digit := f_is_digit, fd_is_digit := _, F_is_digit := fun_of l_is_digit c_is_digit k_is_digit, m_is_digit := PySem.W.mg_of X G a_is_digit, b_is_digit := (fun_of l_is_digit c_is_digit k_is_digit).bindsN fun _ _ _ _ _ _ us hl => match us, hl with | [_], _ => rfl,
    a_is_name := f_is_name, fd_is_name := _, F_is_name := fun_of l_is_name c_is_name k_is_name, m_is_name := PySem.W.mg_of X G a_is_name, b_is_name := (fun_of l_is_name c_is_name k_is_name).bindsN fun _ _ _ _ _ _ us hl => match us, hl with | [_], _ => rfl,
    a_check_name := f_check_name, fd_check_name := _, F_check_name := fun_of l_check_name c_check_name k_check_name, m_check_name := PySem.W.mg_of X G a_check_name, b_check_name := (fun_of l_check_name c_check_name k_check_name).bindsN fun _ _ _ _ _ _ us hl => match us, hl with | [_], _ => rfl,
    a_check_convention := f_check_convention, fd_check_convention := _, F_check_convention := fun_of l_check_convention c_check_convention k_check_convention, m_check_convention := PySem.W.mg_of X G a_check_convention, b_check_convention := (fun_of l_check_convention c_check_convention k_check_convention).bindsN fun _ _ _ _ _ _ us hl => match us, hl with | [_], _ => rfl,
    a_Terms___init__ := f_Terms___init__, fd_Terms___init__ := _, qk_Terms___init__ := qk_Terms___init__, tk_Terms___init__ := fun H => tup_of lk_Terms___init__ uk_Terms___init__, F_Terms___init__ := fun_ofK l_Terms___init__ c_Terms___init__ k_Terms___init__ (kw_cons kd_Terms___init___every ⟨_, rfl⟩ (kw_cons kd_Terms___init___due_on ⟨_, rfl⟩ (kw_cons kd_Terms___init___calendar ⟨_, rfl⟩ (kw_cons kd_Terms___init___rule ⟨_, rfl⟩ (kw_cons kd_Terms___init___index ⟨_, rfl⟩ (kw_cons kd_Terms___init___rate ⟨_, rfl⟩ (kw_cons kd_Terms___init___lowest ⟨_, rfl⟩ (kw_cons kd_Terms___init___highest ⟨_, rfl⟩ (kw_cons kd_Terms___init___convention ⟨_, rfl⟩ (kw_cons kd_Terms___init___mode ⟨_, rfl⟩ (kw_cons kd_Terms___init___scheme ⟨_, rfl⟩ (kw_cons kd_Terms___init___free ⟨_, rfl⟩ (kw_cons kd_Terms___init___opening_fee ⟨_, rfl⟩ (kw_cons kd_Terms___init___opening_part ⟨_, rfl⟩ (kw_cons kd_Terms___init___period_fee ⟨_, rfl⟩ (kw_cons kd_Terms___init___late_fee ⟨_, rfl⟩ (kw_cons kd_Terms___init___grace ⟨_, rfl⟩ (kw_cons kd_Terms___init___early_part ⟨_, rfl⟩ (kw_cons kd_Terms___init___early_months ⟨_, rfl⟩ (kw_cons kd_Terms___init___order rfl (kw_cons kd_Terms___init___penalty ⟨_, rfl⟩ kw_nil))))))))))))))))))))),
    a_Terms_parts := f_Terms_parts, fd_Terms_parts := _, F_Terms_parts := fun_of l_Terms_parts c_Terms_parts k_Terms_parts, b_Terms_parts := (fun_of l_Terms_parts c_Terms_parts k_Terms_parts).bindsN fun _ _ _ _ _ _ us hl => match us, hl with | [_], _ => rfl,
    a_Terms_copy_of := f_Terms_copy_of, fd_Terms_copy_of := _, F_Terms_copy_of := fun_of l_Terms_copy_of c_Terms_copy_of k_Terms_copy_of, b_Terms_copy_of := (fun_of l_Terms_copy_of c_Terms_copy_of k_Terms_copy_of).bindsN fun _ _ _ _ _ _ us hl => match us, hl with | [_], _ => rfl,
    a_Terms_same_as := f_Terms_same_as, fd_Terms_same_as := _, F_Terms_same_as := fun_of l_Terms_same_as c_Terms_same_as k_Terms_same_as, b_Terms_same_as := (fun_of l_Terms_same_as c_Terms_same_as k_Terms_same_as).bindsN fun _ _ _ _ _ _ us hl => match us, hl with | [_, _], _ => rfl,
    a_check_word := f_check_word, fd_check_word := _, F_check_word := fun_of l_check_word c_check_word k_check_word, m_check_word := PySem.W.mg_of X G a_check_word, b_check_word := (fun_of l_check_word c_check_word k_check_word).bindsN fun _ _ _ _ _ _ us hl => match us, hl with | [_, _], _ => rfl,
    a_check_terms := f_check_terms, fd_check_terms := _, F_check_terms := fun_of l_check_terms c_check_terms k_check_terms, m_check_terms := PySem.W.mg_of X G a_check_terms, b_check_terms := (fun_of l_check_terms c_check_terms k_check_terms).bindsN fun _ _ _ _ _ _ us hl => match us, hl with | [_], _ => rfl,
    a_check_charges := f_check_charges, fd_check_charges := _, F_check_charges := fun_of l_check_charges c_check_charges k_check_charges, m_check_charges := PySem.W.mg_of X G a_check_charges, b_check_charges := (fun_of l_check_charges c_check_charges k_check_charges).bindsN fun _ _ _ _ _ _ us hl => match us, hl with | [_], _ => rfl,
    a_check_together := f_check_together, fd_check_together := _, F_check_together := fun_of l_check_together c_check_together k_check_together, m_check_together := PySem.W.mg_of X G a_check_together, b_check_together := (fun_of l_check_together c_check_together k_check_together).bindsN fun _ _ _ _ _ _ us hl => match us, hl with | [_], _ => rfl,
    a_is_late_too_long := f_is_late_too_long, fd_is_late_too_long := _, F_is_late_too_long := fun_of l_is_late_too_long c_is_late_too_long k_is_late_too_long, m_is_late_too_long := PySem.W.mg_of X G a_is_late_too_long, b_is_late_too_long := (fun_of l_is_late_too_long c_is_late_too_long k_is_late_too_long).bindsN fun _ _ _ _ _ _ us hl => match us, hl with | [_, _, _], _ => rfl,
    a_show_amount := f_show_amount, fd_show_amount := _, F_show_amount := fun_of l_show_amount c_show_amount k_show_amount, m_show_amount := PySem.W.mg_of X G a_show_amount, b_show_amount := (fun_of l_show_amount c_show_amount k_show_amount).bindsN fun _ _ _ _ _ _ us hl => match us, hl with | [_], _ => rfl,
    a_show_percent := f_show_percent, fd_show_percent := _, F_show_percent := fun_of l_show_percent c_show_percent k_show_percent, m_show_percent := PySem.W.mg_of X G a_show_percent, b_show_percent := (fun_of l_show_percent c_show_percent k_show_percent).bindsN fun _ _ _ _ _ _ us hl => match us, hl with | [_], _ => rfl,
    a_payments_line := f_payments_line, fd_payments_line := _, F_payments_line := fun_of l_payments_line c_payments_line k_payments_line, m_payments_line := PySem.W.mg_of X G a_payments_line, b_payments_line := (fun_of l_payments_line c_payments_line k_payments_line).bindsN fun _ _ _ _ _ _ us hl => match us, hl with | [_], _ => rfl,
    a_due_line := f_due_line, fd_due_line := _, F_due_line := fun_of l_due_line c_due_line k_due_line, m_due_line := PySem.W.mg_of X G a_due_line, b_due_line := (fun_of l_due_line c_due_line k_due_line).bindsN fun _ _ _ _ _ _ us hl => match us, hl with | [_], _ => rfl,
    a_rate_line := f_rate_line, fd_rate_line := _, F_rate_line := fun_of l_rate_line c_rate_line k_rate_line, m_rate_line := PySem.W.mg_of X G a_rate_line, b_rate_line := (fun_of l_rate_line c_rate_line k_rate_line).bindsN fun _ _ _ _ _ _ us hl => match us, hl with | [_], _ => rfl,
    a_opening_line := f_opening_line, fd_opening_line := _, F_opening_line := fun_of l_opening_line c_opening_line k_opening_line, m_opening_line := PySem.W.mg_of X G a_opening_line, b_opening_line := (fun_of l_opening_line c_opening_line k_opening_line).bindsN fun _ _ _ _ _ _ us hl => match us, hl with | [_], _ => rfl,
    a_clause_lines := f_clause_lines, fd_clause_lines := _, F_clause_lines := fun_of l_clause_lines c_clause_lines k_clause_lines, m_clause_lines := PySem.W.mg_of X G a_clause_lines, b_clause_lines := (fun_of l_clause_lines c_clause_lines k_clause_lines).bindsN fun _ _ _ _ _ _ us hl => match us, hl with | [_], _ => rfl,
    a_told_fields := f_told_fields, fd_told_fields := _, F_told_fields := fun_of l_told_fields c_told_fields k_told_fields, m_told_fields := PySem.W.mg_of X G a_told_fields, b_told_fields := (fun_of l_told_fields c_told_fields k_told_fields).bindsN fun _ _ _ _ _ _ us hl => match us, hl with | [_], _ => rfl,
    a_show_product := f_show_product, fd_show_product := _, F_show_product := fun_of l_show_product c_show_product k_show_product, m_show_product := PySem.W.mg_of X G a_show_product, b_show_product := (fun_of l_show_product c_show_product k_show_product).bindsN fun _ _ _ _ _ _ us hl => match us, hl with | [_], _ => rfl,
    a_show_products := f_show_products, fd_show_products := _, F_show_products := fun_of l_show_products c_show_products k_show_products, m_show_products := PySem.W.mg_of X G a_show_products, b_show_products := (fun_of l_show_products c_show_products k_show_products).bindsN fun _ _ _ _ _ _ us hl => match us, hl with | [_], _ => rfl,
    a__law_cell := f__law_cell, fd__law_cell := _, F__law_cell := fun_of l__law_cell c__law_cell k__law_cell, m__law_cell := PySem.W.mg_of X G a__law_cell, b__law_cell := (fun_of l__law_cell c__law_cell k__law_cell).bindsN fun _ _ _ _ _ _ us hl => match us, hl with | [_, _], _ => rfl,
    a__law_draw := f__law_draw, fd__law_draw := _, F__law_draw := fun_of l__law_draw c__law_draw k__law_draw, m__law_draw := PySem.W.mg_of X G a__law_draw, b__law_draw := (fun_of l__law_draw c__law_draw k__law_draw).bindsN fun _ _ _ _ _ _ us hl => match us, hl with | [_, _], _ => rfl,
    a__law_fields := f__law_fields, fd__law_fields := _, F__law_fields := fun_of l__law_fields c__law_fields k__law_fields, m__law_fields := PySem.W.mg_of X G a__law_fields, b__law_fields := (fun_of l__law_fields c__law_fields k__law_fields).bindsN fun _ _ _ _ _ _ us hl => match us, hl with | [_, _], _ => rfl,
    a__law_order := f__law_order, fd__law_order := _, F__law_order := fun_of l__law_order c__law_order k__law_order, m__law_order := PySem.W.mg_of X G a__law_order, b__law_order := (fun_of l__law_order c__law_order k__law_order).bindsN fun _ _ _ _ _ _ us hl => match us, hl with | [_], _ => rfl,
    a__law_keys := f__law_keys, fd__law_keys := _, F__law_keys := fun_of l__law_keys c__law_keys k__law_keys, m__law_keys := PySem.W.mg_of X G a__law_keys, b__law_keys := (fun_of l__law_keys c__law_keys k__law_keys).bindsN fun _ _ _ _ _ _ us hl => match us, hl with | [], _ => rfl,
    a__law_terms := f__law_terms, fd__law_terms := _, F__law_terms := fun_of l__law_terms c__law_terms k__law_terms, m__law_terms := PySem.W.mg_of X G a__law_terms, b__law_terms := (fun_of l__law_terms c__law_terms k__law_terms).bindsN fun _ _ _ _ _ _ us hl => match us, hl with | [_], _ => rfl,
    a__law_read_out := f__law_read_out, fd__law_read_out := _, F__law_read_out := fun_of l__law_read_out c__law_read_out k__law_read_out, m__law_read_out := PySem.W.mg_of X G a__law_read_out, b__law_read_out := (fun_of l__law_read_out c__law_read_out k__law_read_out).bindsN fun _ _ _ _ _ _ us hl => match us, hl with | [_], _ => rfl,
    a__law_alike := f__law_alike, fd__law_alike := _, F__law_alike := fun_of l__law_alike c__law_alike k__law_alike, m__law_alike := PySem.W.mg_of X G a__law_alike, b__law_alike := (fun_of l__law_alike c__law_alike k__law_alike).bindsN fun _ _ _ _ _ _ us hl => match us, hl with | [_, _], _ => rfl,
    a__law_money := f__law_money, fd__law_money := _, F__law_money := fun_of l__law_money c__law_money k__law_money, m__law_money := PySem.W.mg_of X G a__law_money, b__law_money := (fun_of l__law_money c__law_money k__law_money).bindsN fun _ _ _ _ _ _ us hl => match us, hl with | [_], _ => rfl,
    a__law_rate := f__law_rate, fd__law_rate := _, F__law_rate := fun_of l__law_rate c__law_rate k__law_rate, m__law_rate := PySem.W.mg_of X G a__law_rate, b__law_rate := (fun_of l__law_rate c__law_rate k__law_rate).bindsN fun _ _ _ _ _ _ us hl => match us, hl with | [_], _ => rfl,
    a__law_clauses := f__law_clauses, fd__law_clauses := _, F__law_clauses := fun_of l__law_clauses c__law_clauses k__law_clauses, m__law_clauses := PySem.W.mg_of X G a__law_clauses, b__law_clauses := (fun_of l__law_clauses c__law_clauses k__law_clauses).bindsN fun _ _ _ _ _ _ us hl => match us, hl with | [_, _], _ => rfl,
    a__law_shown := f__law_shown, fd__law_shown := _, F__law_shown := fun_of l__law_shown c__law_shown k__law_shown, m__law_shown := PySem.W.mg_of X G a__law_shown, b__law_shown := (fun_of l__law_shown c__law_shown k__law_shown).bindsN fun _ _ _ _ _ _ us hl => match us, hl with | [_], _ => rfl,
    a_law := f_law, fd_law := _, F_law := fun_of l_law c_law k_law, m_law := PySem.W.mg_of X G a_law, b_law := (fun_of l_law c_law k_law).bindsN fun _ _ _ _ _ _ us hl => match us, hl with | [_], _ => rfl,
    c_Terms := c_Terms, m_Terms := PySem.W.mg_of X G a_Terms, cl_Terms := ⟨pg_Terms, hd_Terms, po_Terms, sa_Terms⟩, mk_Terms := ⟨mks_Terms, a_Terms___init__, i_Terms___init__, kc_Terms⟩,
    me_Terms_parts := ⟨a_Terms_parts, i_Terms_parts, k_Terms_parts⟩,
    me_Terms_copy_of := ⟨a_Terms_copy_of, i_Terms_copy_of, k_Terms_copy_of⟩,
    me_Terms_same_as := ⟨a_Terms_same_as, i_Terms_same_as, k_Terms_same_as⟩,
    na_Terms_name := na_Terms_name,
    na_Terms_count := na_Terms_count,
    na_Terms_every := na_Terms_every,
    na_Terms_due_on := na_Terms_due_on,
    na_Terms_calendar := na_Terms_calendar,
    na_Terms_rule := na_Terms_rule,
    na_Terms_index := na_Terms_index,
    na_Terms_rate := na_Terms_rate,
    na_Terms_lowest := na_Terms_lowest,
    na_Terms_highest := na_Terms_highest,
    na_Terms_convention := na_Terms_convention,
    na_Terms_mode := na_Terms_mode,
    na_Terms_scheme := na_Terms_scheme,
    na_Terms_free := na_Terms_free,
    na_Terms_opening_fee := na_Terms_opening_fee,
    na_Terms_opening_part := na_Terms_opening_part,
    na_Terms_period_fee := na_Terms_period_fee,
    na_Terms_late_fee := na_Terms_late_fee,
    na_Terms_grace := na_Terms_grace,
    na_Terms_early_part := na_Terms_early_part,
    na_Terms_early_months := na_Terms_early_months,
    na_Terms_order := na_Terms_order,
    na_Terms_penalty := na_Terms_penalty,
    c_BookError := c_BookError, m_BookError := PySem.W.mg_of X G a_BookError, e_BookError := ⟨⟨ga_BookError, gg_BookError, sb_BookError, hd_BookError, ha_BookError, spc, tkc, hm_BookError⟩, ty_BookError, se_BookError⟩,
    c_OutOfRange := c_OutOfRange, m_OutOfRange := PySem.W.mg_of X G a_OutOfRange, e_OutOfRange := ⟨⟨ga_OutOfRange, gg_OutOfRange, sb_OutOfRange, hd_OutOfRange, ha_OutOfRange, spc, tkc, hm_OutOfRange⟩, ty_OutOfRange, se_OutOfRange⟩,
    x_OutOfRange := ⟨fI_OutOfRange, cc_OutOfRange, cda_OutOfRange, _, _, _, _, _, _, ⟨⟨⟨nm_OutOfRange, q_OutOfRange, N_OutOfRange, bs_OutOfRange, _, sn_OutOfRange, sub_OutOfRange, ab_OutOfRange, col_OutOfRange, dd_OutOfRange, m0_OutOfRange, m1_OutOfRange, m2_OutOfRange, m3_OutOfRange, m5_OutOfRange, xL_OutOfRange, rfl⟩, sa_OutOfRange, sb_OutOfRange, ty_OutOfRange, kp_OutOfRange⟩, i_OutOfRange, ti_OutOfRange, ⟨_, _, _, ce_OutOfRange⟩, ⟨_, _, _, _, _, _, co_OutOfRange, vs_OutOfRange, fi_OutOfRange⟩, by decide +kernel, PySem.W.mg_none_of X G zsuper, se_OutOfRange, third, su_OutOfRange, ve_OutOfRange⟩, li_OutOfRange, ci_OutOfRange⟩,
    n_OutOfRange_label := n_OutOfRange_label,
    n_OutOfRange_value := n_OutOfRange_value,
    c_UnknownName := c_UnknownName, m_UnknownName := PySem.W.mg_of X G a_UnknownName, e_UnknownName := ⟨⟨ga_UnknownName, gg_UnknownName, sb_UnknownName, hd_UnknownName, ha_UnknownName, spc, tkc, hm_UnknownName⟩, ty_UnknownName, se_UnknownName⟩,
    x_UnknownName := ⟨fI_UnknownName, cc_UnknownName, cda_UnknownName, _, _, _, _, _, _, ⟨⟨⟨nm_UnknownName, q_UnknownName, N_UnknownName, bs_UnknownName, _, sn_UnknownName, sub_UnknownName, ab_UnknownName, col_UnknownName, dd_UnknownName, m0_UnknownName, m1_UnknownName, m2_UnknownName, m3_UnknownName, m5_UnknownName, xL_UnknownName, rfl⟩, sa_UnknownName, sb_UnknownName, ty_UnknownName, kp_UnknownName⟩, i_UnknownName, ti_UnknownName, ⟨_, _, _, ce_UnknownName⟩, ⟨_, _, _, _, _, _, co_UnknownName, vs_UnknownName, fi_UnknownName⟩, by decide +kernel, PySem.W.mg_none_of X G zsuper, se_UnknownName, third, su_UnknownName, ve_UnknownName⟩, li_UnknownName, ci_UnknownName⟩,
    n_UnknownName_label := n_UnknownName_label,
    n_UnknownName_name := n_UnknownName_name,
    c_BadName := c_BadName, m_BadName := PySem.W.mg_of X G a_BadName, e_BadName := ⟨⟨ga_BadName, gg_BadName, sb_BadName, hd_BadName, ha_BadName, spc, tkc, hm_BadName⟩, ty_BadName, se_BadName⟩,
    x_BadName := ⟨fI_BadName, cc_BadName, cda_BadName, _, _, _, _, _, _, ⟨⟨⟨nm_BadName, q_BadName, N_BadName, bs_BadName, _, sn_BadName, sub_BadName, ab_BadName, col_BadName, dd_BadName, m0_BadName, m1_BadName, m2_BadName, m3_BadName, m5_BadName, xL_BadName, rfl⟩, sa_BadName, sb_BadName, ty_BadName, kp_BadName⟩, i_BadName, ti_BadName, ⟨_, _, _, ce_BadName⟩, ⟨_, _, _, _, _, _, co_BadName, vs_BadName, fi_BadName⟩, by decide +kernel, PySem.W.mg_none_of X G zsuper, se_BadName, third, su_BadName, ve_BadName⟩, li_BadName, ci_BadName⟩,
    n_BadName_label := n_BadName_label,
    n_BadName_name := n_BadName_name,
    y_BookError_BookError := y_BookError_BookError,
    y_BookError_OutOfRange := y_BookError_OutOfRange,
    y_BookError_UnknownName := y_BookError_UnknownName,
    y_BookError_BadName := y_BookError_BadName,
    yv_BookError := yv_BookError,
    y_OutOfRange_BookError := y_OutOfRange_BookError,
    y_OutOfRange_OutOfRange := y_OutOfRange_OutOfRange,
    y_OutOfRange_UnknownName := y_OutOfRange_UnknownName,
    y_OutOfRange_BadName := y_OutOfRange_BadName,
    yv_OutOfRange := yv_OutOfRange,
    y_UnknownName_BookError := y_UnknownName_BookError,
    y_UnknownName_OutOfRange := y_UnknownName_OutOfRange,
    y_UnknownName_UnknownName := y_UnknownName_UnknownName,
    y_UnknownName_BadName := y_UnknownName_BadName,
    yv_UnknownName := yv_UnknownName,
    y_BadName_BookError := y_BadName_BookError,
    y_BadName_OutOfRange := y_BadName_OutOfRange,
    y_BadName_UnknownName := y_BadName_UnknownName,
    y_BadName_BadName := y_BadName_BadName,
    yv_BadName := yv_BadName,
    nd := ⟨nsok_of ndo ndk, ndn⟩,
    m_LARGE := ⟨_, PySem.W.mg_of X G a_LARGE⟩,
    m_DIGITS := ⟨_, PySem.W.mg_of X G a_DIGITS⟩,
    m_MOST_CENTS := ⟨_, PySem.W.mg_of X G a_MOST_CENTS⟩,
    m_MOST_RATE := ⟨_, PySem.W.mg_of X G a_MOST_RATE⟩,
    m_NAME_LENGTH := ⟨_, PySem.W.mg_of X G a_NAME_LENGTH⟩,
    q_RULES := q_RULES, m_RULES := PySem.W.mg_of X G a_RULES, t_RULES := fun H => tup_of l_RULES u_RULES,
    q_PARTS := q_PARTS, m_PARTS := PySem.W.mg_of X G a_PARTS, kd_PARTS := ⟨_, _, ⟨l_PARTS, kl_PARTS, lo_PARTS⟩⟩, ka_PARTS := fun z => kat_of l_PARTS u_PARTS z,
    q_MODES := q_MODES, m_MODES := PySem.W.mg_of X G a_MODES, t_MODES := fun H => tup_of l_MODES u_MODES,
    q_SCHEMES := q_SCHEMES, m_SCHEMES := PySem.W.mg_of X G a_SCHEMES, t_SCHEMES := fun H => tup_of l_SCHEMES u_SCHEMES,
    q_EVERY := q_EVERY, m_EVERY := PySem.W.mg_of X G a_EVERY, t_EVERY := fun H => tup_of l_EVERY u_EVERY,
    q_USUAL_ORDER := q_USUAL_ORDER, m_USUAL_ORDER := PySem.W.mg_of X G a_USUAL_ORDER, t_USUAL_ORDER := fun H => tup_of l_USUAL_ORDER u_USUAL_ORDER,
    m_SHORTEST_MONTH := ⟨_, PySem.W.mg_of X G a_SHORTEST_MONTH⟩,
    m_MOST_COUNT := ⟨_, PySem.W.mg_of X G a_MOST_COUNT⟩,
    m_MOST_FREE := ⟨_, PySem.W.mg_of X G a_MOST_FREE⟩,
    m_MOST_GRACE := ⟨_, PySem.W.mg_of X G a_MOST_GRACE⟩,
    m_MOST_PART := ⟨_, PySem.W.mg_of X G a_MOST_PART⟩,
    q_FIELD_NAMES := q_FIELD_NAMES, m_FIELD_NAMES := PySem.W.mg_of X G a_FIELD_NAMES, t_FIELD_NAMES := fun H => tup_of l_FIELD_NAMES u_FIELD_NAMES,
    z_str := PySem.W.mg_none_of X G z_str,
    z_divmod := PySem.W.mg_none_of X G z_divmod,
    z_len := PySem.W.mg_none_of X G z_len,
    z_tuple := PySem.W.mg_none_of X G z_tuple,
    z_sorted := PySem.W.mg_none_of X G z_sorted,
    z_zip := PySem.W.mg_none_of X G z_zip,
    z_any := PySem.W.mg_none_of X G z_any,
    z_abs := PySem.W.mg_none_of X G z_abs,
    z_range := PySem.W.mg_none_of X G z_range,
    z_int := PySem.W.mg_none_of X G z_int,
    z_min := PySem.W.mg_none_of X G z_min,
    z_max := PySem.W.mg_none_of X G z_max,
    z_isinstance := PySem.W.mg_none_of X G z_isinstance,
    z_bool := PySem.W.mg_none_of X G z_bool,
    z_list := PySem.W.mg_none_of X G z_list }
  have e := hfa.symm.trans T.m_law
  cases e
  exact ⟨_, fun s u => T.F_law.bindsA (ps := ["script"]) (fun _ _ _ _ _ _ us hl => match us, hl with | [_], _ => rfl) s [u] rfl, fun base _ _ => (ok_law T).mono (by decide)⟩
end My
open PySem PySem.W PyProof.Rows
set_option maxRecDepth 100000 in
set_option maxHeartbeats 0 in
theorem PySem.Challenge.cw_lendbook_k28_products_are_shown_holds : PySem.Challenge.rw_lendbook_k28_products_are_shown.Holds := by
  w_on; o_law; k_head; (case hw => w_witness2)
  k_fill
  refine LB.walk (l := PySem.Challenge.rw_lendbook_k28_products_are_shown) (k := 12) rfl rfl ⟨rfl, by decide, by decide⟩ (fun w h Y => PySem.W.kIn_of Y) ?F
  case F =>
    intro w mg fa h KX G hmg
    refine' My.all_mk KX G hmg ?a__wall ?l__wall ?c__wall ?k__wall ?a_show_integer ?l_show_integer ?c_show_integer ?k_show_integer ?a_check_between ?l_check_between ?c_check_between ?k_check_between ?a_is_lower ?l_is_lower ?c_is_lower ?k_is_lower ?a_is_digit ?l_is_digit ?c_is_digit ?k_is_digit ?a_is_name ?l_is_name ?c_is_name ?k_is_name ?a_check_name ?l_check_name ?c_check_name ?k_check_name ?a_check_convention ?l_check_convention ?c_check_convention ?k_check_convention ?a_Terms___init__ ?l_Terms___init__ ?c_Terms___init__ ?k_Terms___init__ ?kd_Terms___init___every ?kd_Terms___init___due_on ?kd_Terms___init___calendar ?kd_Terms___init___rule ?kd_Terms___init___index ?kd_Terms___init___rate ?kd_Terms___init___lowest ?kd_Terms___init___highest ?kd_Terms___init___convention ?kd_Terms___init___mode ?kd_Terms___init___scheme ?kd_Terms___init___free ?kd_Terms___init___opening_fee ?kd_Terms___init___opening_part ?kd_Terms___init___period_fee ?kd_Terms___init___late_fee ?kd_Terms___init___grace ?kd_Terms___init___early_part ?kd_Terms___init___early_months ?kd_Terms___init___order ?kd_Terms___init___penalty ?lk_Terms___init__ ?uk_Terms___init__ ?i_Terms___init__ ?a_Terms_parts ?l_Terms_parts ?c_Terms_parts ?k_Terms_parts ?i_Terms_parts ?a_Terms_copy_of ?l_Terms_copy_of ?c_Terms_copy_of ?k_Terms_copy_of ?i_Terms_copy_of ?a_Terms_same_as ?l_Terms_same_as ?c_Terms_same_as ?k_Terms_same_as ?i_Terms_same_as ?a_check_word ?l_check_word ?c_check_word ?k_check_word ?a_check_terms ?l_check_terms ?c_check_terms ?k_check_terms ?a_check_charges ?l_check_charges ?c_check_charges ?k_check_charges ?a_check_together ?l_check_together ?c_check_together ?k_check_together ?a_is_late_too_long ?l_is_late_too_long ?c_is_late_too_long ?k_is_late_too_long ?a_show_amount ?l_show_amount ?c_show_amount ?k_show_amount ?a_show_percent ?l_show_percent ?c_show_percent ?k_show_percent ?a_payments_line ?l_payments_line ?c_payments_line ?k_payments_line ?a_due_line ?l_due_line ?c_due_line ?k_due_line ?a_rate_line ?l_rate_line ?c_rate_line ?k_rate_line ?a_opening_line ?l_opening_line ?c_opening_line ?k_opening_line ?a_clause_lines ?l_clause_lines ?c_clause_lines ?k_clause_lines ?a_told_fields ?l_told_fields ?c_told_fields ?k_told_fields ?a_show_product ?l_show_product ?c_show_product ?k_show_product ?a_show_products ?l_show_products ?c_show_products ?k_show_products ?a__law_cell ?l__law_cell ?c__law_cell ?k__law_cell ?a__law_draw ?l__law_draw ?c__law_draw ?k__law_draw ?a__law_fields ?l__law_fields ?c__law_fields ?k__law_fields ?a__law_order ?l__law_order ?c__law_order ?k__law_order ?a__law_keys ?l__law_keys ?c__law_keys ?k__law_keys ?a__law_terms ?l__law_terms ?c__law_terms ?k__law_terms ?a__law_read_out ?l__law_read_out ?c__law_read_out ?k__law_read_out ?a__law_alike ?l__law_alike ?c__law_alike ?k__law_alike ?a__law_money ?l__law_money ?c__law_money ?k__law_money ?a__law_rate ?l__law_rate ?c__law_rate ?k__law_rate ?a__law_clauses ?l__law_clauses ?c__law_clauses ?k__law_clauses ?a__law_shown ?l__law_shown ?c__law_shown ?k__law_shown ?a_law ?l_law ?c_law ?k_law ?a_Terms ?pg_Terms ?hd_Terms ?po_Terms ?sa_Terms ?mks_Terms ?kc_Terms ?na_Terms_name ?na_Terms_count ?na_Terms_every ?na_Terms_due_on ?na_Terms_calendar ?na_Terms_rule ?na_Terms_index ?na_Terms_rate ?na_Terms_lowest ?na_Terms_highest ?na_Terms_convention ?na_Terms_mode ?na_Terms_scheme ?na_Terms_free ?na_Terms_opening_fee ?na_Terms_opening_part ?na_Terms_period_fee ?na_Terms_late_fee ?na_Terms_grace ?na_Terms_early_part ?na_Terms_early_months ?na_Terms_order ?na_Terms_penalty ?third ?zsuper ?spc ?tkc ?a_BookError ?ga_BookError ?gg_BookError ?sb_BookError ?hd_BookError ?ha_BookError ?hm_BookError ?ty_BookError ?se_BookError ?a_OutOfRange ?ga_OutOfRange ?gg_OutOfRange ?sb_OutOfRange ?hd_OutOfRange ?ha_OutOfRange ?hm_OutOfRange ?ty_OutOfRange ?se_OutOfRange ?xL_OutOfRange ?sa_OutOfRange ?kp_OutOfRange ?i_OutOfRange ?ti_OutOfRange ?li_OutOfRange ?ci_OutOfRange ?ce_OutOfRange ?co_OutOfRange ?vs_OutOfRange ?fi_OutOfRange ?su_OutOfRange ?ve_OutOfRange ?n_OutOfRange_label ?n_OutOfRange_value ?a_UnknownName ?ga_UnknownName ?gg_UnknownName ?sb_UnknownName ?hd_UnknownName ?ha_UnknownName ?hm_UnknownName ?ty_UnknownName ?se_UnknownName ?xL_UnknownName ?sa_UnknownName ?kp_UnknownName ?i_UnknownName ?ti_UnknownName ?li_UnknownName ?ci_UnknownName ?ce_UnknownName ?co_UnknownName ?vs_UnknownName ?fi_UnknownName ?su_UnknownName ?ve_UnknownName ?n_UnknownName_label ?n_UnknownName_name ?a_BadName ?ga_BadName ?gg_BadName ?sb_BadName ?hd_BadName ?ha_BadName ?hm_BadName ?ty_BadName ?se_BadName ?xL_BadName ?sa_BadName ?kp_BadName ?i_BadName ?ti_BadName ?li_BadName ?ci_BadName ?ce_BadName ?co_BadName ?vs_BadName ?fi_BadName ?su_BadName ?ve_BadName ?n_BadName_label ?n_BadName_name ?y_BookError_BookError ?y_BookError_OutOfRange ?y_BookError_UnknownName ?y_BookError_BadName ?yv_BookError ?y_OutOfRange_BookError ?y_OutOfRange_OutOfRange ?y_OutOfRange_UnknownName ?y_OutOfRange_BadName ?yv_OutOfRange ?y_UnknownName_BookError ?y_UnknownName_OutOfRange ?y_UnknownName_UnknownName ?y_UnknownName_BadName ?yv_UnknownName ?y_BadName_BookError ?y_BadName_OutOfRange ?y_BadName_UnknownName ?y_BadName_BadName ?yv_BadName ?ndo ?ndk ?ndn ?a_LARGE ?a_DIGITS ?a_MOST_CENTS ?a_MOST_RATE ?a_NAME_LENGTH ?a_RULES ?l_RULES ?u_RULES ?a_PARTS ?l_PARTS ?kl_PARTS ?u_PARTS ?lo_PARTS ?a_MODES ?l_MODES ?u_MODES ?a_SCHEMES ?l_SCHEMES ?u_SCHEMES ?a_EVERY ?l_EVERY ?u_EVERY ?a_USUAL_ORDER ?l_USUAL_ORDER ?u_USUAL_ORDER ?a_SHORTEST_MONTH ?a_MOST_COUNT ?a_MOST_FREE ?a_MOST_GRACE ?a_MOST_PART ?a_FIELD_NAMES ?l_FIELD_NAMES ?u_FIELD_NAMES ?z_str ?z_divmod ?z_len ?z_tuple ?z_sorted ?z_zip ?z_any ?z_abs ?z_range ?z_int ?z_min ?z_max ?z_isinstance ?z_bool ?z_list
    (case a_Terms => k_is)
    (case a__wall => k_is)
    (case l__wall => k_is)
    (case c__wall => k_is)
    (case k__wall => k_is)
    (case a_show_integer => k_is)
    (case l_show_integer => k_is)
    (case c_show_integer => k_is)
    (case k_show_integer => k_is)
    (case a_check_between => k_is)
    (case l_check_between => k_is)
    (case c_check_between => k_is)
    (case k_check_between => k_is)
    (case a_is_lower => k_is)
    (case l_is_lower => k_is)
    (case c_is_lower => k_is)
    (case k_is_lower => k_is)
    (case a_is_digit => k_is)
    (case l_is_digit => k_is)
    (case c_is_digit => k_is)
    (case k_is_digit => k_is)
    (case a_is_name => k_is)
    (case l_is_name => k_is)
    (case c_is_name => k_is)
    (case k_is_name => k_is)
    (case a_check_name => k_is)
    (case l_check_name => k_is)
    (case c_check_name => k_is)
    (case k_check_name => k_is)
    (case a_check_convention => k_is)
    (case l_check_convention => k_is)
    (case c_check_convention => k_is)
    (case k_check_convention => k_is)
    (case a_Terms___init__ => k_is)
    (case l_Terms___init__ => k_is)
    (case c_Terms___init__ => k_is)
    (case k_Terms___init__ => k_is)
    (case kd_Terms___init___every => k_is)
    (case kd_Terms___init___due_on => k_is)
    (case kd_Terms___init___calendar => k_is)
    (case kd_Terms___init___rule => k_is)
    (case kd_Terms___init___index => k_is)
    (case kd_Terms___init___rate => k_is)
    (case kd_Terms___init___lowest => k_is)
    (case kd_Terms___init___highest => k_is)
    (case kd_Terms___init___convention => k_is)
    (case kd_Terms___init___mode => k_is)
    (case kd_Terms___init___scheme => k_is)
    (case kd_Terms___init___free => k_is)
    (case kd_Terms___init___opening_fee => k_is)
    (case kd_Terms___init___opening_part => k_is)
    (case kd_Terms___init___period_fee => k_is)
    (case kd_Terms___init___late_fee => k_is)
    (case kd_Terms___init___grace => k_is)
    (case kd_Terms___init___early_part => k_is)
    (case kd_Terms___init___early_months => k_is)
    (case kd_Terms___init___order => k_is)
    (case kd_Terms___init___penalty => k_is)
    (case lk_Terms___init__ => k_is)
    (case uk_Terms___init__ => decide +kernel)
    (case i_Terms___init__ => k_is)
    (case a_Terms_parts => k_is)
    (case l_Terms_parts => k_is)
    (case c_Terms_parts => k_is)
    (case k_Terms_parts => k_is)
    (case i_Terms_parts => k_is)
    (case a_Terms_copy_of => k_is)
    (case l_Terms_copy_of => k_is)
    (case c_Terms_copy_of => k_is)
    (case k_Terms_copy_of => k_is)
    (case i_Terms_copy_of => k_is)
    (case a_Terms_same_as => k_is)
    (case l_Terms_same_as => k_is)
    (case c_Terms_same_as => k_is)
    (case k_Terms_same_as => k_is)
    (case i_Terms_same_as => k_is)
    (case a_check_word => k_is)
    (case l_check_word => k_is)
    (case c_check_word => k_is)
    (case k_check_word => k_is)
    (case a_check_terms => k_is)
    (case l_check_terms => k_is)
    (case c_check_terms => k_is)
    (case k_check_terms => k_is)
    (case a_check_charges => k_is)
    (case l_check_charges => k_is)
    (case c_check_charges => k_is)
    (case k_check_charges => k_is)
    (case a_check_together => k_is)
    (case l_check_together => k_is)
    (case c_check_together => k_is)
    (case k_check_together => k_is)
    (case a_is_late_too_long => k_is)
    (case l_is_late_too_long => k_is)
    (case c_is_late_too_long => k_is)
    (case k_is_late_too_long => k_is)
    (case a_show_amount => k_is)
    (case l_show_amount => k_is)
    (case c_show_amount => k_is)
    (case k_show_amount => k_is)
    (case a_show_percent => k_is)
    (case l_show_percent => k_is)
    (case c_show_percent => k_is)
    (case k_show_percent => k_is)
    (case a_payments_line => k_is)
    (case l_payments_line => k_is)
    (case c_payments_line => k_is)
    (case k_payments_line => k_is)
    (case a_due_line => k_is)
    (case l_due_line => k_is)
    (case c_due_line => k_is)
    (case k_due_line => k_is)
    (case a_rate_line => k_is)
    (case l_rate_line => k_is)
    (case c_rate_line => k_is)
    (case k_rate_line => k_is)
    (case a_opening_line => k_is)
    (case l_opening_line => k_is)
    (case c_opening_line => k_is)
    (case k_opening_line => k_is)
    (case a_clause_lines => k_is)
    (case l_clause_lines => k_is)
    (case c_clause_lines => k_is)
    (case k_clause_lines => k_is)
    (case a_told_fields => k_is)
    (case l_told_fields => k_is)
    (case c_told_fields => k_is)
    (case k_told_fields => k_is)
    (case a_show_product => k_is)
    (case l_show_product => k_is)
    (case c_show_product => k_is)
    (case k_show_product => k_is)
    (case a_show_products => k_is)
    (case l_show_products => k_is)
    (case c_show_products => k_is)
    (case k_show_products => k_is)
    (case a__law_cell => k_is)
    (case l__law_cell => k_is)
    (case c__law_cell => k_is)
    (case k__law_cell => k_is)
    (case a__law_draw => k_is)
    (case l__law_draw => k_is)
    (case c__law_draw => k_is)
    (case k__law_draw => k_is)
    (case a__law_fields => k_is)
    (case l__law_fields => k_is)
    (case c__law_fields => k_is)
    (case k__law_fields => k_is)
    (case a__law_order => k_is)
    (case l__law_order => k_is)
    (case c__law_order => k_is)
    (case k__law_order => k_is)
    (case a__law_keys => k_is)
    (case l__law_keys => k_is)
    (case c__law_keys => k_is)
    (case k__law_keys => k_is)
    (case a__law_terms => k_is)
    (case l__law_terms => k_is)
    (case c__law_terms => k_is)
    (case k__law_terms => k_is)
    (case a__law_read_out => k_is)
    (case l__law_read_out => k_is)
    (case c__law_read_out => k_is)
    (case k__law_read_out => k_is)
    (case a__law_alike => k_is)
    (case l__law_alike => k_is)
    (case c__law_alike => k_is)
    (case k__law_alike => k_is)
    (case a__law_money => k_is)
    (case l__law_money => k_is)
    (case c__law_money => k_is)
    (case k__law_money => k_is)
    (case a__law_rate => k_is)
    (case l__law_rate => k_is)
    (case c__law_rate => k_is)
    (case k__law_rate => k_is)
    (case a__law_clauses => k_is)
    (case l__law_clauses => k_is)
    (case c__law_clauses => k_is)
    (case k__law_clauses => k_is)
    (case a__law_shown => k_is)
    (case l__law_shown => k_is)
    (case c__law_shown => k_is)
    (case k__law_shown => k_is)
    (case a_law => k_is)
    (case l_law => k_is)
    (case c_law => k_is)
    (case k_law => k_is)
    (case pg_Terms => k_is)
    (case hd_Terms => k_is)
    (case po_Terms => k_is)
    (case sa_Terms => k_is)
    (case mks_Terms => k_is)
    (case kc_Terms => k_is)
    (case na_Terms_name => k_is)
    (case na_Terms_count => k_is)
    (case na_Terms_every => k_is)
    (case na_Terms_due_on => k_is)
    (case na_Terms_calendar => k_is)
    (case na_Terms_rule => k_is)
    (case na_Terms_index => k_is)
    (case na_Terms_rate => k_is)
    (case na_Terms_lowest => k_is)
    (case na_Terms_highest => k_is)
    (case na_Terms_convention => k_is)
    (case na_Terms_mode => k_is)
    (case na_Terms_scheme => k_is)
    (case na_Terms_free => k_is)
    (case na_Terms_opening_fee => k_is)
    (case na_Terms_opening_part => k_is)
    (case na_Terms_period_fee => k_is)
    (case na_Terms_late_fee => k_is)
    (case na_Terms_grace => k_is)
    (case na_Terms_early_part => k_is)
    (case na_Terms_early_months => k_is)
    (case na_Terms_order => k_is)
    (case na_Terms_penalty => k_is)
    (case third => k_is)
    (case zsuper => k_is)
    (case spc => k_is)
    (case tkc => k_is)
    (case a_BookError => k_is)
    (case ga_BookError => k_is)
    (case gg_BookError => k_is)
    (case sb_BookError => k_is)
    (case hd_BookError => k_is)
    (case ha_BookError => k_is)
    (case hm_BookError => k_is)
    (case ty_BookError => k_is)
    (case se_BookError => k_is)
    (case a_OutOfRange => k_is)
    (case ga_OutOfRange => k_is)
    (case gg_OutOfRange => k_is)
    (case sb_OutOfRange => k_is)
    (case hd_OutOfRange => k_is)
    (case ha_OutOfRange => k_is)
    (case hm_OutOfRange => k_is)
    (case ty_OutOfRange => k_is)
    (case se_OutOfRange => k_is)
    (case xL_OutOfRange => k_is)
    (case sa_OutOfRange => k_is)
    (case kp_OutOfRange => k_is)
    (case i_OutOfRange => k_is)
    (case ti_OutOfRange => k_is)
    (case li_OutOfRange => k_is)
    (case ci_OutOfRange => k_is)
    (case ce_OutOfRange => k_is)
    (case co_OutOfRange => k_is)
    (case vs_OutOfRange => rfl)
    (case fi_OutOfRange => decide +kernel)
    (case su_OutOfRange => ks_is)
    (case ve_OutOfRange => k_is)
    (case n_OutOfRange_label => k_is)
    (case n_OutOfRange_value => k_is)
    (case a_UnknownName => k_is)
    (case ga_UnknownName => k_is)
    (case gg_UnknownName => k_is)
    (case sb_UnknownName => k_is)
    (case hd_UnknownName => k_is)
    (case ha_UnknownName => k_is)
    (case hm_UnknownName => k_is)
    (case ty_UnknownName => k_is)
    (case se_UnknownName => k_is)
    (case xL_UnknownName => k_is)
    (case sa_UnknownName => k_is)
    (case kp_UnknownName => k_is)
    (case i_UnknownName => k_is)
    (case ti_UnknownName => k_is)
    (case li_UnknownName => k_is)
    (case ci_UnknownName => k_is)
    (case ce_UnknownName => k_is)
    (case co_UnknownName => k_is)
    (case vs_UnknownName => rfl)
    (case fi_UnknownName => decide +kernel)
    (case su_UnknownName => ks_is)
    (case ve_UnknownName => k_is)
    (case n_UnknownName_label => k_is)
    (case n_UnknownName_name => k_is)
    (case a_BadName => k_is)
    (case ga_BadName => k_is)
    (case gg_BadName => k_is)
    (case sb_BadName => k_is)
    (case hd_BadName => k_is)
    (case ha_BadName => k_is)
    (case hm_BadName => k_is)
    (case ty_BadName => k_is)
    (case se_BadName => k_is)
    (case xL_BadName => k_is)
    (case sa_BadName => k_is)
    (case kp_BadName => k_is)
    (case i_BadName => k_is)
    (case ti_BadName => k_is)
    (case li_BadName => k_is)
    (case ci_BadName => k_is)
    (case ce_BadName => k_is)
    (case co_BadName => k_is)
    (case vs_BadName => rfl)
    (case fi_BadName => decide +kernel)
    (case su_BadName => ks_is)
    (case ve_BadName => k_is)
    (case n_BadName_label => k_is)
    (case n_BadName_name => k_is)
    (case y_BookError_BookError => k_is)
    (case y_BookError_OutOfRange => k_is)
    (case y_BookError_UnknownName => k_is)
    (case y_BookError_BadName => k_is)
    (case yv_BookError => k_is)
    (case y_OutOfRange_BookError => k_is)
    (case y_OutOfRange_OutOfRange => k_is)
    (case y_OutOfRange_UnknownName => k_is)
    (case y_OutOfRange_BadName => k_is)
    (case yv_OutOfRange => k_is)
    (case y_UnknownName_BookError => k_is)
    (case y_UnknownName_OutOfRange => k_is)
    (case y_UnknownName_UnknownName => k_is)
    (case y_UnknownName_BadName => k_is)
    (case yv_UnknownName => k_is)
    (case y_BadName_BookError => k_is)
    (case y_BadName_OutOfRange => k_is)
    (case y_BadName_UnknownName => k_is)
    (case y_BadName_BadName => k_is)
    (case yv_BadName => k_is)
    (case ndo => k_is)
    (case ndk => exact (Eq.refl true))
    (case ndn => k_is)
    (case a_LARGE => k_is)
    (case a_DIGITS => k_is)
    (case a_MOST_CENTS => k_is)
    (case a_MOST_RATE => k_is)
    (case a_NAME_LENGTH => k_is)
    (case a_RULES => k_is)
    (case l_RULES => k_is)
    (case u_RULES => decide +kernel)
    (case a_PARTS => k_is)
    (case l_PARTS => k_is)
    (case kl_PARTS => k_keys)
    (case u_PARTS => exact (Eq.refl true))
    (case lo_PARTS => decide +kernel)
    (case a_MODES => k_is)
    (case l_MODES => k_is)
    (case u_MODES => decide +kernel)
    (case a_SCHEMES => k_is)
    (case l_SCHEMES => k_is)
    (case u_SCHEMES => decide +kernel)
    (case a_EVERY => k_is)
    (case l_EVERY => k_is)
    (case u_EVERY => decide +kernel)
    (case a_USUAL_ORDER => k_is)
    (case l_USUAL_ORDER => k_is)
    (case u_USUAL_ORDER => decide +kernel)
    (case a_SHORTEST_MONTH => k_is)
    (case a_MOST_COUNT => k_is)
    (case a_MOST_FREE => k_is)
    (case a_MOST_GRACE => k_is)
    (case a_MOST_PART => k_is)
    (case a_FIELD_NAMES => k_is)
    (case l_FIELD_NAMES => k_is)
    (case u_FIELD_NAMES => decide +kernel)
    (case z_str => k_is)
    (case z_divmod => k_is)
    (case z_len => k_is)
    (case z_tuple => k_is)
    (case z_sorted => k_is)
    (case z_zip => k_is)
    (case z_any => k_is)
    (case z_abs => k_is)
    (case z_range => k_is)
    (case z_int => k_is)
    (case z_min => k_is)
    (case z_max => k_is)
    (case z_isinstance => k_is)
    (case z_bool => k_is)
    (case z_list => k_is)
