import PyProof.Rows.All
import Wide.All
import OpenK.AllK
import Wide.FinOn
import HandS.ForExc
import HandS.Comp
import HandS.Defaults
import HandS.IsInst
import HandS.Wide
import HandS.EndBits
import HandS.TryMany
import HandS.ExcField
import HandS.ExcInit
import HandS.Evl
import HandS.Gcd
import HandS.Nested
import HandS.FStr
import KE.KExcSuper
import HandS.ExcIs
import HandS.More
import HandS.Walk
import HandS.Zip
import HandS.Dict
import HandS.DictComp
import HandS.WordsDict
import HandS.SetFor
import HandS.Text
import HandS.Iter
import KE.IntTextLaws
import HandS.MakeKwOnly
import HandS.WideBits
import HandS.Style
import HandS.StrMore
import PyProof.Rows.StrPadFill
import PyProof.Rows.StrCut
import HandS.Set
import HandS.Strs
import HandS.SortOrd
import HandS.SortInts
import PySem.Challenge.RW_lendbook_k27_terms_refuse
set_option Elab.async false
set_option linter.all false
set_option maxRecDepth 100000
set_option maxHeartbeats 4000000
/-! own small rules over the hand layer -/
namespace LB
open PySem PySem.Spec PyProof.Rows L2
theorem bt_int : bootBuiltins "int" = some (.type "int") := by decide +kernel
theorem bt_bool : bootBuiltins "bool" = some (.type "bool") := by decide +kernel
theorem bt_str : bootBuiltins "str" = some (.type "str") := by decide +kernel
theorem bt_list : bootBuiltins "list" = some (.type "list") := by decide +kernel
theorem bt_tuple : bootBuiltins "tuple" = some (.type "tuple") := by decide +kernel
theorem bt_dict : bootBuiltins "dict" = some (.type "dict") := by decide +kernel
theorem bt_set : bootBuiltins "set" = some (.type "set") := by decide +kernel
theorem bt_range : bootBuiltins "range" = some (.type "range") := by decide +kernel
theorem bt_len : bootBuiltins "len" = some (.builtin "len") := by decide +kernel
theorem bt_abs : bootBuiltins "abs" = some (.builtin "abs") := by decide +kernel
theorem bt_isinstance : bootBuiltins "isinstance" = some (.builtin "isinstance") := by decide +kernel
theorem bt_sum : bootBuiltins "sum" = some (.builtin "sum") := by decide +kernel
theorem bt_min : bootBuiltins "min" = some (.builtin "min") := by decide +kernel
theorem bt_max : bootBuiltins "max" = some (.builtin "max") := by decide +kernel
theorem bt_sorted : bootBuiltins "sorted" = some (.builtin "sorted") := by decide +kernel
theorem bt_divmod : bootBuiltins "divmod" = some (.builtin "divmod") := by decide +kernel
theorem bt_any : bootBuiltins "any" = some (.builtin "any") := by decide +kernel
theorem bt_ValueError : bootBuiltins "ValueError" = some (.type "ValueError") := by decide +kernel
theorem bt_all : bootBuiltins "all" = some (.builtin "all") := by decide +kernel

/-! ### sizes of ints: i lies within n bits -/
structure Sz (n : Nat) (i : Int) : Prop where
  lt : i.natAbs < 2 ^ n
theorem Sz.log {n : Nat} {i : Int} (h : Sz n i) : i.natAbs.log2 ≤ n := by
  by_cases h0 : i.natAbs = 0
  · rw [h0]; exact Nat.zero_le _
  · exact Nat.le_of_lt ((Nat.log2_lt h0).mpr h.lt)
theorem Sz.zero (n : Nat) : Sz n 0 := ⟨Nat.pow_pos (by decide)⟩
theorem Sz.mono {m n : Nat} {i : Int} (h : Sz m i) (l : m ≤ n) : Sz n i := ⟨Nat.lt_of_lt_of_le h.lt (Nat.pow_le_pow_right (by decide) l)⟩
theorem Sz.add {m n : Nat} {i j : Int} (a : Sz m i) (b : Sz n j) : Sz (m + n + 1) (i + j) := by
  refine ⟨Nat.lt_of_le_of_lt (Int.natAbs_add_le i j) ?_⟩
  have h1 := (a.mono (Nat.le_add_right m n)).lt
  have h2 := (b.mono (Nat.le_add_left n m)).lt
  rw [Nat.pow_succ]
  omega
theorem Sz.neg {n : Nat} {i : Int} (a : Sz n i) : Sz n (-i) := ⟨by rw [Int.natAbs_neg]; exact a.lt⟩
theorem Sz.sub {m n : Nat} {i j : Int} (a : Sz m i) (b : Sz n j) : Sz (m + n + 1) (i - j) := by
  rw [Int.sub_eq_add_neg]
  exact a.add b.neg
theorem Sz.mul {m n : Nat} {i j : Int} (a : Sz m i) (b : Sz n j) : Sz (m + n) (i * j) := by
  refine ⟨?_⟩
  rw [Int.natAbs_mul, Nat.pow_add]
  exact Nat.mul_lt_mul'' a.lt b.lt
theorem Sz.le {n : Nat} {i j : Int} (a : Sz n j) (h : i.natAbs ≤ j.natAbs) : Sz n i := ⟨Nat.lt_of_le_of_lt h a.lt⟩
theorem Sz.div {n : Nat} {i j : Int} (a : Sz n i) : Sz n (i / j) := a.le (Int.natAbs_ediv_le_natAbs i j)
theorem Sz.mod {n : Nat} {i j : Int} (b : Sz n j) (h : 0 < j) : Sz n (i % j) := b.le (by
  have h1 := Int.emod_nonneg i (b := j) (by omega)
  have h2 := Int.emod_lt_of_pos i h
  omega)
theorem Sz.nn {n : Nat} {i j : Int} (b : Sz n j) (h0 : 0 ≤ i) (h : i ≤ j) : Sz n i := b.le (by omega)
theorem Sz.absv {n : Nat} {i : Int} (a : Sz n i) : Sz n (if i < 0 then -i else i) := by
  by_cases h : i < 0
  · rw [if_pos h]; exact a.neg
  · rw [if_neg h]; exact a
theorem Sz.bits {z : Int} {n : Nat} (h : Builtin.Int.intBits z ≤ n) : Sz n z := by
  refine ⟨?_⟩
  unfold Builtin.Int.intBits at h
  by_cases h0 : z = 0
  · subst h0
    exact Nat.pos_of_ne_zero (by simp)
  · have h1 : ¬ z.natAbs = 0 := by omega
    have h2 : z.natAbs.log2 + 1 ≤ n := by
      split at h
      · rename_i e
        first
          | exact absurd (by simpa using e) h0
          | omega
      · exact h
    exact (Nat.log2_lt h1).mp (by omega)

/-! ### products and quotients of any size -/
/-- a product that fits -/
def CM (i j : Int) : Prop := i.natAbs.log2 + j.natAbs.log2 < 134000000
theorem CM.ok {i j : Int} (h : CM i j) : IntMulOk i j := by
  have b : ∀ x : Int, Builtin.Int.intBits x ≤ x.natAbs.log2 + 1 := fun x => by
    unfold Builtin.Int.intBits
    split <;> omega
  have h1 := b i
  have h2 := b j
  have h3 : i.natAbs.log2 + j.natAbs.log2 < 134000000 := h
  have e := bitsLine_eq
  intro z
  have z2 := (Bool.and_eq_true_iff.mp z).2
  unfold Builtin.Int.intTooBig at z2
  have z3 := of_decide_eq_true z2
  rw [e] at z3
  omega
theorem CM.of {m n : Nat} {i j : Int} (a : Sz m i) (b : Sz n j) (h : m + n < 134000000 := by decide) : CM i j := by
  have h1 := a.log
  have h2 := b.log
  unfold CM
  omega
/-- a positive divisor of less than 9000 bits -/
def CD (_ j : Int) : Prop := 0 < j ∧ j.natAbs.log2 < 9000
theorem CD.of {n : Nat} {i j : Int} (h : 0 < j) (b : Sz n j) (hn : n < 9000 := by decide) : CD i j := ⟨h, Nat.lt_of_le_of_lt b.log hn⟩
theorem CM.of2 {m n : Nat} {i j : Int} (a : Sz m i) (b : Sz n j) (h : m + n < 134000000) : CM i j := CM.of a b h
theorem CD.of2 {n : Nat} {i j : Int} (b : Sz n j) (h : 0 < j) (hn : n < 9000) : CD i j := CD.of h b hn
theorem log2_mono {m n : Nat} (h : m ≤ n) : m.log2 ≤ n.log2 := by
  by_cases h0 : m = 0
  · rw [h0]; exact Nat.zero_le _
  · exact (Nat.le_log2 (by omega)).mpr (Nat.le_trans (Nat.log2_self_le h0) h)
theorem CM.rest {t b : Int} (c : CD t b) : CM 2 (t - t / b * b) := by
  obtain ⟨c1, c2⟩ := c
  have e : t - t / b * b = t % b := by
    have := Int.mul_ediv_add_emod t b
    rw [Int.mul_comm b] at this
    omega
  have h1 := Int.emod_nonneg t (b := b) (by omega)
  have h2 := Int.emod_lt_of_pos t c1
  have h3 := log2_mono (m := (t % b).natAbs) (n := b.natAbs) (by omega)
  show Nat.log2 2 + _ < _
  have h4 : Nat.log2 2 = 1 := by decide +kernel
  rw [e]
  omega
section
variable {X : Cx}
theorem op_mulB : OpR X (binaryOp .Mult) (rI CM fun i j => .int (i * j)) := opI fun _ _ _ _ _ _ _ hc q => mul_int q hc.ok
theorem op_fdivB : OpR X (binaryOp .FloorDiv) (rI CD fun i j => .int (i / j)) := op_fdivW
end

/-! ### the script's cells -/
def cell (ns : List Int) (i : Nat) : Int := ns.getD i 0
def Bits (ns : List Int) : Prop := ∀ z ∈ ns, Builtin.Int.intBits z ≤ 1048576
theorem cell_sz {ns : List Int} (h : Bits ns) (i : Nat) : Sz 1048576 (cell ns i) := by
  unfold cell
  rw [List.getD_eq_getElem?_getD]
  cases e : ns[i]? with
  | none => exact Sz.zero _
  | some z => exact Sz.bits (h z (List.mem_of_getElem? e))

theorem atI_map_cell {ns : List Int} {j : Nat} (h : j < ns.length) : atI (ns.map V.int) ((j : Nat) : Int) = some (V.int (cell ns j)) := by
  refine atI_nat ?_
  rw [List.getElem?_map, List.getElem?_eq_getElem h]
  unfold cell
  rw [List.getD_eq_getElem?_getD, List.getElem?_eq_getElem h]
  rfl
/-- the answer of isinstance(x, int) and not isinstance(x, bool), by the kind of x -/
def wholeV : V → Option Bool
  | .int _ => some true
  | .bl _ => some false
  | .str _ => some false
  | .non => some false
  | _ => none

/-! ### heaps that grow -/
theorem same_new {H H' : Hp} {p : Addr} {o : HO} (s : Same H H') (h : H' p = none) : Same H (upd H' p o) := fun b u e => by
  rw [upd_ne (ne_of_none (s b u e) h)]
  exact s b u e
theorem same_tup {K : PySem.W.Frag} {H H' : Hp} {a : Addr} {xs : List V} (e : Same H H') (h : SqT K H a xs) : SqT K H' a xs := Evl.ex_t e h
theorem same_lst {K : PySem.W.Frag} {H H' : Hp} {a : Addr} {xs : List V} (e : Same H H') (h : SqL K H a xs) : SqL K H' a xs := Evl.ex_l e h
theorem t_of {K : PySem.W.Frag} {H : Hp} {a : Addr} {xs : List V} (h : H a = some (.tup xs)) : SqT K H a xs := Or.inl (Or.inl h)
theorem l_of {K : PySem.W.Frag} {H : Hp} {a : Addr} {xs : List V} (h : H a = some (.lst xs)) : SqL K H a xs := Or.inl (Or.inl h)
theorem lst_upd {K : PySem.W.Frag} {H : Hp} {a p : Addr} {o : HO} {xs : List V} (e : H p = none) (h : SqL K H a xs) : SqL K (upd H p o) a xs := same_lst (same_new (Same.refl H) e) h
theorem tup_upd {K : PySem.W.Frag} {H : Hp} {a p : Addr} {o : HO} {xs : List V} (e : H p = none) (h : SqT K H a xs) : SqT K (upd H p o) a xs := same_tup (same_new (Same.refl H) e) h
/-- a law's promise: a list of at most 63 ints of at most 2^20 bits each is handed in, True comes out -/
def sp_law (K : PySem.W.Frag) : Sp := fun vs H Q _ => ∃ (a : Addr) (ns : List Int), vs = [.ref a] ∧ SqL K H a (ns.map V.int) ∧ ns.length ≤ 63 ∧ Bits ns ∧ ∀ H', Q (.bl true) H'
theorem passX {X : Cx} : Passes (L2.CX X.prog X.w) X E0 := fun _ _ _ _ _ _ _ h => by
  obtain ⟨_, _, _, _, _, _, _, _, _, _, _, _, z⟩ := h
  exact z.elim
theorem passXS {X : Cx} (σ : L2.St) : PassesAt (L2.CX X.prog X.w) X σ ((fun _ => E0 : L2.St → XK) σ) := fun _ _ _ _ _ _ h => by
  obtain ⟨_, _, _, _, _, _, _, _, _, _, _, _, z⟩ := h
  exact z.elim
theorem walk {l : PySem.W.OpenLaw} {k : Nat} {q : Program} {loose : List Str} {XP : (Str → Option Value) → Heap → Prop} {YP : World → Heap → Prop} {d : DefRec} {K : Params → PySem.W.Frag} (hn : l.most = some 63) (hdf : d.params.defaults = [])
    (hr : Room k callerA) (hY : ∀ (w : World) (h : Heap), YP w h → (K w.params).In h)
    (F : ∀ (w : World) (mg : Str → Option Value) (fa : Addr) (h : Heap), (K w.params).In h → h.Ns mainGlobals mg → mg d.name = some (.ref fa) →
      ∃ fd : FuncData, (∀ (s : Shared) (u : Value), BindsTo s fd ⟨[u], []⟩ [("script", u)]) ∧ ∀ base : Heap, (K w.params).In base → base.Ns mainGlobals mg → FnOk l.prog w (K w.params) mg base (L2.CX l.prog w) k fa fd ["script"] (sp_law (K w.params))) :
    PySem.W.WalkO q loose XP YP l.row.toRowW d [] (fun f vs => PySem.call f vs) :=
  L2.walk_ofB (n := 63) (k := k) (x := "script") (CX := fun w => L2.CX l.prog w) (sp := fun w => sp_law (K w.params)) hn (by decide) hdf hr hY F (fun _ _ a ns hl hb _ hS => ⟨a, ns, rfl, hS, hl, hb, fun _ => rfl⟩) fun _ _ _ _ _ h => by
    obtain ⟨_, _, _, _, _, _, _, _, _, _, _, _, z⟩ := h
    exact z.elim
/-- a def without defaults, as the top leaves it -/
theorem fun_of {K : PySem.W.Frag} {x qual : Str} {pa : Arguments} {bd : List Stmt} {sc : Scope} {f : Addr} {oc : Value} {od an : Option Addr} {osl : Array (Option Value)} {kV doc pm cdv ct : Value}
    (l : K.lookup f = some ⟨oc, od, .func (PySem.W.fnOf x qual pa bd sc .none kV doc pm an cdv ct), osl⟩) (c : PySem.W.codeIn K cdv qual = true) (k : PySem.W.keepIn K (.ref f) = true) :
    FunD K x qual pa bd sc [] [] f (PySem.W.fnOf x qual pa bd sc .none kV doc pm an cdv ct) := ⟨⟨oc, od, .none, kV, doc, pm, an, cdv, ct, osl, rfl, l, c, .inl ⟨rfl, rfl⟩, .inl rfl⟩, k⟩
/-! ### items by their place -/
section
variable {K : PySem.W.Frag} {H : Hp} {p : Addr} {xs : List V} {i : Int} {v : V} {Q : VK}
theorem ixT_go (h : SqT K H p xs) (e : atI xs i = some v) (q : Q v H) : rIxT K (.ref p) (.int i) H Q := ⟨p, xs, i, v, rfl, rfl, h, e, q⟩
theorem ixL_go (h : SqL K H p xs) (e : atI xs i = some v) (q : Q v H) : rIxL K (.ref p) (.int i) H Q := ⟨p, xs, i, v, rfl, rfl, h, e, q⟩
theorem ixUT_go (h : SqT K H p xs) (e : atI xs i = some v) (q : Q v H) : rIx K (.ref p) (.int i) H Q := .inr (.inl (ixT_go h e q))
theorem ixUL_go (h : SqL K H p xs) (e : atI xs i = some v) (q : Q v H) : rIx K (.ref p) (.int i) H Q := .inl (ixL_go h e q)
end
/-! ### ways -/
theorem iteD {p A B : Prop} [Decidable p] (h1 : p → A) (h2 : ¬ p → B) : if decide p = true then A else B := by
  by_cases h : p
  · rw [decide_eq_true h]; exact iteT (h1 h)
  · rw [decide_eq_false h]; exact iteF (h2 h)
theorem iteDN {p A B : Prop} [Decidable p] (h1 : ¬ p → A) (h2 : p → B) : if (!decide p) = true then A else B := by
  by_cases h : p
  · rw [decide_eq_true h]; exact iteF (h2 h)
  · rw [decide_eq_false h]; exact iteT (h1 h)
theorem iteI {x y : Int} {A B : Prop} (h1 : x = y → A) (h2 : x ≠ y → B) : if decide (V.int x = V.int y) = true then A else B :=
  iteD (fun h => h1 (V.int.inj h)) fun h => h2 fun e => h (congrArg V.int e)
theorem iteIN {x y : Int} {A B : Prop} (h1 : x ≠ y → A) (h2 : x = y → B) : if (!decide (V.int x = V.int y)) = true then A else B :=
  iteDN (fun h => h1 fun e => h (congrArg V.int e)) fun h => h2 (V.int.inj h)
theorem iteS {x y : Str} {A B : Prop} (h1 : x = y → A) (h2 : x ≠ y → B) : if decide (V.str x = V.str y) = true then A else B :=
  iteD (fun h => h1 (V.str.inj h)) fun h => h2 fun e => h (congrArg V.str e)
theorem iteSN {x y : Str} {A B : Prop} (h1 : x ≠ y → A) (h2 : x = y → B) : if (!decide (V.str x = V.str y)) = true then A else B :=
  iteDN (fun h => h1 fun e => h (congrArg V.str e)) fun h => h2 (V.str.inj h)
theorem iteLen {xs : List V} {y : Int} {A B : Prop} (e : ((xs.length : Nat) : Int) = y) (h : A) : if decide (V.int ((xs.length : Nat) : Int) = V.int y) = true then A else B := by
  subst e
  rw [decide_eq_true rfl]
  exact iteT h
theorem iteLenN {xs : List V} {y : Int} {A B : Prop} (e : ((xs.length : Nat) : Int) = y) (h : B) : if (!decide (V.int ((xs.length : Nat) : Int) = V.int y)) = true then A else B := by
  subst e
  rw [decide_eq_true rfl]
  exact iteF h
theorem iteB {b : Bool} {A B : Prop} (h1 : b = true → A) (h2 : b = false → B) : if b = true then A else B := by
  cases b
  · exact iteF (h2 rfl)
  · exact iteT (h1 rfl)
theorem iteBN {b : Bool} {A B : Prop} (h1 : b = false → A) (h2 : b = true → B) : if (!b) = true then A else B := by
  cases b
  · exact iteT (h1 rfl)
  · exact iteF (h2 rfl)
theorem q_int {Q : VK} {x y : Int} {H : Hp} (q : Q (.int x) H) (e : x = y) : Q (.int y) H := e ▸ q
theorem q_bl {Q : VK} {x y : Bool} {H : Hp} (q : Q (.bl x) H) (e : x = y) : Q (.bl y) H := e ▸ q
/-- a statement whose ways meet: P holds behind each of them -/
def tCut (t : TS) : TS := fun D σ H => ∃ W : L2.St → Hp → Prop, t { D with nx := W } σ H ∧ ∀ σ' H', W σ' H' → D.nx σ' H'
theorem ps_cut {X : Cx} {st : Stmt} {t : TS} (h : PS X st t) : PS X st (tCut t) := by
  refine ⟨fun pins s σ H D I hw => ?_⟩
  obtain ⟨W, h1, h2⟩ := hw
  refine thn (h.run pins s σ H _ I h1) fun f s' q => ?_
  cases f with
  | next =>
    obtain ⟨σ', H', I', q'⟩ := q
    exact ⟨σ', H', I', h2 σ' H' q'⟩
  | brk => exact q
  | cont => exact q
  | ret u => exact q
/-! ### what the top has written -/
def relB : V → Value → Bool
  | .non, .none => true
  | .bl b, .bool c => b == c
  | .int i, .int j _ => i == j
  | .str x, .str y _ => x == y
  | .ref a, .ref b => a == b
  | .ty n, .type m => n == m
  | _, _ => false
theorem relB_ok : ∀ {v : V} {u : Value}, relB v u = true → RelV v u
  | .non, .none, _ => rfl
  | .bl b, .bool c, h => by
    have e : b = c := by simpa [relB] using h
    rw [e]; exact rfl
  | .int i, .int j t, h => by
    have e : i = j := by simpa [relB] using h
    rw [e]; exact ⟨t, rfl⟩
  | .str x, .str y t, h => by
    have e : x = y := by simpa [relB] using h
    rw [e]; exact ⟨t, rfl⟩
  | .ref a, .ref b, h => by
    have e : a = b := by simpa [relB] using h
    rw [e]; exact rfl
  | .ty n, .type m, h => by
    have e : n = m := by simpa [relB] using h
    rw [e]; exact rfl
def valsB : List V → List Value → Bool
  | [], [] => true
  | v :: vs, u :: us => relB v u && valsB vs us
  | _, _ => false
theorem valsB_ok : ∀ {vs : List V} {us : List Value}, valsB vs us = true → Vals vs us
  | [], [], _ => .nil
  | v :: vs, u :: us, h => by
    have h2 := Bool.and_eq_true_iff.mp h
    exact .cons (relB_ok h2.1) (valsB_ok h2.2)
  | [], _ :: _, h => by cases h
  | _ :: _, [], h => by cases h
theorem tup_of {K : PySem.W.Frag} {H : Hp} {a : Addr} {od : Option Addr} {its : Array Value} {n : Nat} {sl : Array (Option Value)} {xs : List V} (l : K.lookup a = some ⟨.type "tuple", od, .seq its n, sl⟩) (v : valsB xs its.toList = true) (h : xs.length ≤ 1000 := by decide) : SqT K H a xs := by
  have r := valsB_ok v
  refine .inr ⟨_, its, n, l, rfl, rfl, ?_, r⟩
  have e : its.size = xs.length := by rw [r.length]; simp
  rw [e, sizeLine_eq]
  omega
/-- a def with defaults -/
theorem fun_ofD {K : PySem.W.Frag} {x qual : Str} {pa : Arguments} {bd : List Stmt} {sc : Scope} {f t : Addr} {oc : Value} {od an odt : Option Addr} {osl slt : Array (Option Value)} {kV doc pm cdv ct : Value} {its : Array Value} {n : Nat} {dvs : List V}
    (l : K.lookup f = some ⟨oc, od, .func (PySem.W.fnOf x qual pa bd sc (.ref t) kV doc pm an cdv ct), osl⟩) (c : PySem.W.codeIn K cdv qual = true) (k : PySem.W.keepIn K (.ref f) = true)
    (lt : K.lookup t = some ⟨.type "tuple", odt, .seq its n, slt⟩) (v : valsB dvs its.toList = true) (hd : dvs ≠ [] := by intro z; cases z) :
    FunD K x qual pa bd sc dvs [] f (PySem.W.fnOf x qual pa bd sc (.ref t) kV doc pm an cdv ct) := ⟨⟨oc, od, _, kV, doc, pm, an, cdv, ct, osl, rfl, l, c, .inr ⟨hd, t, _, its.toList, n, rfl, lt, by simp, valsB_ok v⟩, .inl rfl⟩, k⟩
section
variable {X : Cx} {CX : CXT} {k : Nat} {f : Addr} {fd : FuncData} {ps : List Str} {sp : Sp} {E : L2.St → XK} {x : Str} {p pos : Pos} {e : Expr} {es : List Expr} {t : TA} {dvs : List V}
def tCallD (sp : Sp) (dvs : List V) (E : L2.St → XK) (t : TA) : TE := fun σ H Q => t σ H fun vs H1 => sp (vs ++ dvs) H1 Q (E σ)
/-- f(e, ..), the defaults dvs fill up -/
theorem pe_callSD (F : FnOk X.prog X.w X.K X.mg X.base CX k f fd ps sp) (hr : Room k X.A) (hg : Gl X x) (hm : X.mg x = some (.ref f)) (hk : PySem.W.keepIn X.K (.ref f) = true) (hb : ∃ ds, Vals dvs ds ∧ Binds X.K fd ps ds) (hx : ∀ σ, PassesAt CX X σ (E σ))
    (ha : PA X (e :: es) t) (hdb : (x == ("__debug__" : Str)) = false := by decide) (he : starEach (e :: es) X.env = (false, eval e X.env) :: starEach es X.env := by rfl) (hpl : (backTo pos (starEach es X.env)).any (·.1) = false := by rfl) :
    PE X (.Call (.Name x p) (e :: es) [] pos) (tCallD sp dvs E t) := by
  obtain ⟨ds, hd, hb⟩ := hb
  refine ⟨fun pins s σ H Q I h => ?_⟩
  refine wpAny_Call_Name_kw (ld_glob I hg hm ?_ hdb)
  refine PySem.W.callWith_K (h₀ := X.base) I.ok.mod.kin hk (thn (ha.run pos pins s σ H _ I h) fun us s1 hh => ?_) he hpl
  obtain ⟨vs, H1, I1, r, q⟩ := hh
  have r2 : Vals (vs ++ dvs) (us ++ ds) := r.append hd
  refine ⟨I1.kIn, ?_⟩
  show wpAny _ _ (call (.ref f) us) _ _ _
  refine wpAny_call (codeAny_mono (F.run X.A X.stack s1 H1 ⟨us, []⟩ (us ++ ds) (vs ++ dvs) Q (E σ) hr I1.env0 (hb s1 us I1.kIn (r2.length.symm.trans (F.len _ _ _ _ q))) r2 q) fun rr s' hq => ?_)
  cases rr with
  | error e => exact hx σ pins H1 s1 e s' I1 hq
  | ok fl =>
    cases fl with
    | ret u => exact I1.after hq
    | next => exact False.elim hq
    | brk => exact False.elim hq
    | cont => exact False.elim hq
end
/-- one that stays behind a wall: nothing steps into it -/
structure Wall (p : Prop) : Prop where
  get : True → p
theorem wall {p : Prop} (h : p) : Wall p := ⟨fun _ => h⟩
theorem Wall.in_ {p q : Prop} (h : p → q) : Wall p → q := fun k => h (k.get trivial)
/-! ### == of flat lists and tuples -/
def pd : V → PyData
  | .bl b => .bool b
  | .int i => .int i
  | .str x => .str x
  | _ => .none
def okS (x : Str) : Bool := x.cps.toList.all fun c => Nat.blt c 0x110000
theorem okS_ok {x : Str} (h : okS x = true) : PyData.strOk x = true := by
  unfold PyData.strOk
  unfold okS at h
  rw [Array.all_toList] at h
  rw [← h]
  congr 1
  funext c
  show decide (c < 1114112) = Nat.blt c 1114112
  rw [Bool.eq_iff_iff, decide_eq_true_iff, Nat.blt_eq]
def flatS : V → Bool
  | .non => true
  | .bl _ => true
  | .int _ => true
  | .str x => okS x
  | _ => false
def eqL : List V → List V → Bool
  | [], [] => true
  | x :: xs, y :: ys => eqV x y && eqL xs ys
  | _, _ => false
theorem eqL_self : ∀ {xs : List V}, xs.all flatS = true → eqL xs xs = true
  | [], _ => rfl
  | x :: xs, h => by
    have h2 := Bool.and_eq_true_iff.mp (List.all_cons .. ▸ h)
    refine Bool.and_eq_true_iff.mpr ⟨?_, eqL_self h2.2⟩
    cases x <;> first | (exact absurd (show false = true from h2.1) Bool.false_ne_true) | simp [eqV]
theorem dp_pd {K : PySem.W.Frag} {H : Hp} : ∀ {x : V}, flatS x = true → Dp K H x (pd x)
  | .non, _ => .non
  | .bl b, _ => .bl b
  | .int i, _ => .int i
  | .str x, _ => .str x
  | .byt _, h => absurd (show false = true from h) Bool.false_ne_true
  | .flt _, h => absurd (show false = true from h) Bool.false_ne_true
  | .ref _, h => absurd (show false = true from h) Bool.false_ne_true
  | .ty _, h => absurd (show false = true from h) Bool.false_ne_true
theorem dpAll_pd {K : PySem.W.Frag} {H : Hp} : ∀ {xs : List V}, xs.all flatS = true → DpAll K H xs (xs.map pd)
  | [], _ => .nil
  | x :: xs, h => by
    have h2 := Bool.and_eq_true_iff.mp (List.all_cons .. ▸ h)
    exact .cons (dp_pd h2.1) (dpAll_pd h2.2)
theorem lay_pd : ∀ {x : V}, flatS x = true → (pd x).canLay0 = true ∧ (pd x).depth = 0 := fun {x} h => by
  cases x <;> first | (exact absurd (show false = true from h) Bool.false_ne_true) | (refine ⟨?_, ?_⟩ <;> simp only [pd, PyData.canLay0, PyData.depth]) 
  all_goals exact okS_ok h
theorem layAll_pd : ∀ {xs : List V}, xs.all flatS = true → PyData.canLayAll0 (xs.map pd) = true ∧ PyData.depthAll (xs.map pd) = 0
  | [], _ => ⟨by simp only [List.map, PyData.canLayAll0], by simp only [List.map, PyData.depthAll]⟩
  | x :: xs, h => by
    have h2 := Bool.and_eq_true_iff.mp (List.all_cons .. ▸ h)
    have a := lay_pd h2.1
    have b := layAll_pd h2.2
    simp only [List.map, PyData.canLayAll0, PyData.depthAll, a.1, a.2, b.1, b.2]
    decide
theorem shaped_pd {xs : List V} (h : xs.all flatS = true) : SeqAt.shaped (.tuple (xs.map pd)) = true ∧ SeqAt.shaped (.list (xs.map pd)) = true := by
  have a := layAll_pd h
  unfold SeqAt.shaped
  simp only [PyData.canLay0, PyData.depth, a.1, a.2]
  decide
theorem eqv_pd : ∀ {x y : V}, flatS x = true → flatS y = true → PyData.eqv (pd x) (pd y) = eqV x y := fun {x y} hx hy => by
  cases x <;> first | (exact absurd (show false = true from hx) Bool.false_ne_true) | skip
  all_goals cases y <;> first | (exact absurd (show false = true from hy) Bool.false_ne_true) | (simp only [pd, PyData.eqv, eqV])
theorem eqvAll_pd : ∀ {xs ys : List V}, xs.all flatS = true → ys.all flatS = true → PyData.eqvAll (xs.map pd) (ys.map pd) = eqL xs ys
  | [], [], _, _ => by simp only [List.map, PyData.eqvAll, eqL]
  | [], _ :: _, _, _ => by simp only [List.map, PyData.eqvAll, eqL]
  | _ :: _, [], _, _ => by simp only [List.map, PyData.eqvAll, eqL]
  | x :: xs, y :: ys, h, k => by
    have h2 := Bool.and_eq_true_iff.mp (List.all_cons .. ▸ h)
    have k2 := Bool.and_eq_true_iff.mp (List.all_cons .. ▸ k)
    simp only [List.map, PyData.eqvAll, eqL, eqv_pd h2.1 k2.1, eqvAll_pd h2.2 k2.2]
section
variable {K : PySem.W.Frag} {H : Hp} {a b : Addr} {xs ys : List V} {Q : VK}
theorem eqD_T (h1 : SqT K H a xs) (h2 : SqT K H b ys) (f1 : xs.all flatS = true) (f2 : ys.all flatS = true) (q : Q (.bl (eqL xs ys)) H) : rEqD K (.ref a) (.ref b) H Q := by
  refine ⟨_, _, .tup h1 (dpAll_pd f1), .tup h2 (dpAll_pd f2), (shaped_pd f1).1, (shaped_pd f2).1, ?_⟩
  simp only [PyData.eqv, eqvAll_pd f1 f2]
  exact q
theorem neD_T (h1 : SqT K H a xs) (h2 : SqT K H b ys) (f1 : xs.all flatS = true) (f2 : ys.all flatS = true) (q : Q (.bl (!eqL xs ys)) H) : rNeD K (.ref a) (.ref b) H Q := by
  refine ⟨_, _, .tup h1 (dpAll_pd f1), .tup h2 (dpAll_pd f2), (shaped_pd f1).1, (shaped_pd f2).1, ?_⟩
  simp only [PyData.eqv, eqvAll_pd f1 f2]
  exact q
theorem eqD_L (h1 : SqL K H a xs) (h2 : SqL K H b ys) (f1 : xs.all flatS = true) (f2 : ys.all flatS = true) (q : Q (.bl (eqL xs ys)) H) : rEqD K (.ref a) (.ref b) H Q := by
  refine ⟨_, _, .lst h1 (dpAll_pd f1), .lst h2 (dpAll_pd f2), (shaped_pd f1).2, (shaped_pd f2).2, ?_⟩
  simp only [PyData.eqv, eqvAll_pd f1 f2]
  exact q
theorem neD_L (h1 : SqL K H a xs) (h2 : SqL K H b ys) (f1 : xs.all flatS = true) (f2 : ys.all flatS = true) (q : Q (.bl (!eqL xs ys)) H) : rNeD K (.ref a) (.ref b) H Q := by
  refine ⟨_, _, .lst h1 (dpAll_pd f1), .lst h2 (dpAll_pd f2), (shaped_pd f1).2, (shaped_pd f2).2, ?_⟩
  simp only [PyData.eqv, eqvAll_pd f1 f2]
  exact q
/-- the same items: equal -/
theorem eqD_TT (h1 : SqT K H a xs) (h2 : SqT K H b ys) (e : xs = ys) (f : xs.all flatS = true) (q : Q (.bl true) H) : rEqD K (.ref a) (.ref b) H Q := by
  subst e
  exact eqD_T h1 h2 f f ((eqL_self f).symm ▸ q)
theorem neD_TT (h1 : SqT K H a xs) (h2 : SqT K H b ys) (e : xs = ys) (f : xs.all flatS = true) (q : Q (.bl false) H) : rNeD K (.ref a) (.ref b) H Q := by
  subst e
  exact neD_T h1 h2 f f (by rw [eqL_self f]; exact q)
theorem eqD_LL (h1 : SqL K H a xs) (h2 : SqL K H b ys) (e : xs = ys) (f : xs.all flatS = true) (q : Q (.bl true) H) : rEqD K (.ref a) (.ref b) H Q := by
  subst e
  exact eqD_L h1 h2 f f ((eqL_self f).symm ▸ q)
theorem neD_LL (h1 : SqL K H a xs) (h2 : SqL K H b ys) (e : xs = ys) (f : xs.all flatS = true) (q : Q (.bl false) H) : rNeD K (.ref a) (.ref b) H Q := by
  subst e
  exact neD_L h1 h2 f f (by rw [eqL_self f]; exact q)
end
/-! ### isinstance -/
theorem tyx_t {K : PySem.W.Frag} {H : Hp} {a : Addr} {xs : List V} (h : SqT K H a xs) : TyX K H (.ref a) (.type "tuple") := by
  rcases h with (h | ⟨o, h⟩) | ⟨o, its, n, h1, h2, _⟩
  · exact .base (.tup h)
  · exact .fTuple h
  · exact .kTuple h1 h2
theorem tyx_l {K : PySem.W.Frag} {H : Hp} {a : Addr} {xs : List V} (h : SqL K H a xs) : TyX K H (.ref a) (.type "list") := by
  rcases h with (h | ⟨o, h⟩) | ⟨o, its, n, h1, h2, _⟩
  · exact .base (.lst h)
  · exact .base (.frz h)
  · exact .kList h1 h2
@[irreducible] def rIs (K : PySem.W.Frag) : List V → Hp → VK → Prop := fun xs H Q => rIsi K xs H Q
theorem call_is {X : Cx} : CallR X (.builtin "isinstance") (rIs X.K) := fun pins s σ H xs us Q I r h => call_isi pins s σ H xs us Q I r (by unfold rIs at h; exact h)
theorem isi_go {K : PySem.W.Frag} {H : Hp} {x : V} {a b : String} {r : Bool} {Q : VK} (h : TyX K H x (.type a)) (k : kitB a b = some r) (q : Q (.bl r) H) : rIs K [x, .ty b] H Q := by
  unfold rIs
  exact ⟨_, _, _, _, r, rfl, .ty _, h, kit_ty k, q⟩
theorem not_pos {b : Bool} (h : b = false) : (!b) = true := by rw [h]; rfl
def any1 : List V → Prop := fun _ => True
/-! ### len -/
@[irreducible] def rLn (K : PySem.W.Frag) : List V → Hp → VK → Prop := fun xs H Q => ∃ p ys, xs = [.ref p] ∧ (SqL K H p ys ∨ SqT K H p ys) ∧ Q (.int ys.length) H
theorem call_ln {X : Cx} : CallR X (.builtin "len") (rLn X.K) := fun pins s σ H xs us Q I r h => call_len_seq pins s σ H xs us Q I r (by unfold rLn at h; exact h)
section
variable {K : PySem.W.Frag} {H : Hp} {p : Addr} {ys : List V} {Q : VK}
theorem ln_t (h : SqT K H p ys) (q : Q (.int ys.length) H) : rLn K [.ref p] H Q := by
  unfold rLn
  exact ⟨_, _, rfl, .inr h, q⟩
theorem ln_l (h : SqL K H p ys) (q : Q (.int ys.length) H) : rLn K [.ref p] H Q := by
  unfold rLn
  exact ⟨_, _, rfl, .inl h, q⟩
end
theorem same_set {H H' : Hp} {p : Addr} {o : HO} (s : Same H H') (h : H p = none) : Same H (upd H' p o) := fun b u e => by
  have hb : b ≠ p := fun z => by
    rw [z, h] at e
    cases e
  rw [upd_ne hb]
  exact s b u e
theorem map_len {α : Type} {f : α → V} {xs : List α} : (((xs.map f).length : Nat) : Int) = ((xs.length : Nat) : Int) := by rw [List.length_map]
theorem range_snoc {f : Nat → Int} {i : Nat} {y : Int} (e : f i = y) : ((List.range i).map f).map V.int ++ [V.int y] = ((List.range (i + 1)).map f).map V.int := by
  subst e
  rw [List.range_succ, List.map_append, List.map_append]
  rfl
theorem atI_map {ns : List Int} {j : Nat} (h : j < ns.length) : atI (ns.map V.int) (0 + ((j : Nat) : Int)) = some (V.int (ns.getD j 0)) := by
  rw [Int.zero_add]
  exact atI_map_cell h
/-! ### methods of lists -/
@[irreducible] def rApp : V → List V → Hp → VK → Prop := fun x vs H Q => rAppend x vs H Q
theorem mt_app {X : Cx} : MtM X "list.append" rApp := fun pins s σ H x vs v us Q I rx rv h => mt_append pins s σ H x vs v us Q I rx rv (by unfold rApp at h; exact h)
theorem app_go {H : Hp} {l : Addr} {xs : List V} {y : V} {Q : VK} (e : H l = some (.lst xs)) (hl : xs.length < sizeLine) (q : Q .non (upd H l (.lst (xs ++ [y])))) : rApp (.ref l) [y] H Q := by
  unfold rApp
  exact ⟨l, xs, y, rfl, rfl, e, hl, q⟩
theorem ty_l {K : PySem.W.Frag} {H : Hp} {p : Addr} {xs : List V} (h : SqL K H p xs) : tyV K "list" (.ref p) H := .inl ⟨rfl, _, h⟩
theorem ty_s {K : PySem.W.Frag} {H : Hp} {z : Str} : tyV K "str" (.str z) H := rfl
theorem ty_d {K : PySem.W.Frag} {H : Hp} {p : Addr} {kvs : List (Key × V)} (h : H p = some (.dK kvs)) : tyV K "dict" (.ref p) H := .inr (.inr (.inl ⟨rfl, .inl ⟨_, h⟩⟩))
/-! ### a call that writes all parameters, the last ones by name -/
section
variable {K : PySem.W.Frag} {x qual : Str} {params : Arguments} {body : List Stmt} {scope : Scope} {dvs : List V} {kws : List (Str × V)} {f : Addr} {fd : FuncData} {ps : List Str}
theorem kb_all (F : FunD K x qual params body scope dvs kws f fd) (n : Nat) (ks : List Str) (hd : dvs ≠ [])
    (h : ∀ (T : Addr) (kV doc pm : Value) (an : Option Addr) (cdv ct : Value) (us its ws : List Value), us.length = n → its.length = dvs.length → ws.length = ks.length →
      ∃ k, bindArgs (PySem.W.fnOf x qual params body scope (.ref T) kV doc pm an cdv ct) ⟨us, ks.zip ws⟩ = seqItems? (.ref T) >>= k ∧ k (some its.toArray) = pure (ps.zip (us ++ ws))) :
    KBn K fd ps n ks (fun us ws => us ++ ws) (fun vs zs => vs ++ zs) := by
  obtain ⟨oc, od, dV, kV, doc, pm, an, cdv, ct, osl, rfl, lk, hcd, hD, hK⟩ := F.ex
  rcases hD with ⟨e, _⟩ | ⟨_, t, o, its, m, rfl, lT, oT, rT⟩
  · exact absurd e hd
  · refine ⟨fun s us ws X l1 l2 => ?_, fun r1 r2 => r1.append r2⟩
    obtain ⟨k, e1, e2⟩ := h t kV doc pm an cdv ct us its ws l1 rT.length.symm l2
    refine BindsTo.of_looks fun M => ?_
    rw [e1]
    exact looks_items X lT oT (.of_pure e2)
end
/-! ### a, b, c = pair -/
theorem gTup_go {K : PySem.W.Frag} {n : Nat} {t : TGs} {a : Addr} {xs : List V} {σ : L2.St} {H : Hp} {Q : L2.St → Hp → Prop} (h : SqT K H a xs) (l : xs.length = n) (q : t xs σ H Q) : gTup K n t (.ref a) σ H Q := ⟨a, xs, rfl, h, l, q⟩
theorem gCons_go {t : TG} {u : TGs} {v : V} {r : List V} {σ : L2.St} {H : Hp} {Q : L2.St → Hp → Prop} (q : t v σ H fun σ' H' => u r σ' H' Q) : gCons t u (v :: r) σ H Q := ⟨v, r, rfl, q⟩
theorem gNil_go {σ : L2.St} {H : Hp} {Q : L2.St → Hp → Prop} (q : Q σ H) : gNil [] σ H Q := ⟨rfl, q⟩
/-! ### min and max of two -/
@[irreducible] def rMn : List V → Hp → VK → Prop := fun xs H Q => ∃ i j, xs = [.int i, .int j] ∧ Q (.int (if j < i then j else i)) H
@[irreducible] def rMx : List V → Hp → VK → Prop := fun xs H Q => ∃ i j, xs = [.int i, .int j] ∧ Q (.int (if i < j then j else i)) H
theorem call_mn {X : Cx} (hc : X.calm = true) : CallR X (.builtin "min") rMn := fun pins s σ H xs us Q I r h => call_min2 hc pins s σ H xs us Q I r (by unfold rMn at h; exact h)
theorem call_mx {X : Cx} (hc : X.calm = true) : CallR X (.builtin "max") rMx := fun pins s σ H xs us Q I r h => call_max2 hc pins s σ H xs us Q I r (by unfold rMx at h; exact h)
theorem mn_go {i j : Int} {H : Hp} {Q : VK} (q : Q (.int (if j < i then j else i)) H) : rMn [.int i, .int j] H Q := by
  unfold rMn
  exact ⟨i, j, rfl, q⟩
theorem mx_go {i j : Int} {H : Hp} {Q : VK} (q : Q (.int (if i < j then j else i)) H) : rMx [.int i, .int j] H Q := by
  unfold rMx
  exact ⟨i, j, rfl, q⟩
theorem atI_ex (xs : List Int) {i : Int} (h0 : 0 ≤ i) (h1 : i < (xs.length : Nat)) : ∃ z, z ∈ xs ∧ atI (xs.map V.int) i = some (V.int z) := by
  obtain ⟨n, rfl⟩ : ∃ n : Nat, i = n := ⟨i.toNat, by omega⟩
  have hn : n < xs.length := by omega
  refine ⟨xs[n], List.getElem_mem hn, ?_⟩
  refine atI_nat ?_
  rw [List.getElem?_map, List.getElem?_eq_getElem hn]
  rfl
/-! ### x in xs, flat -/
@[irreducible] def rInS (K : PySem.W.Frag) (neg : Bool) : R2 := fun x y H Q => rIn K neg x y H Q
theorem op_inS {X : Cx} : OpR X (compareOp .In) (rInS X.K false) := fun pins s σ H x y v u Q I rx ry h => op_in_seq pins s σ H x y v u Q I rx ry (by unfold rInS at h; exact h)
theorem op_notInS {X : Cx} : OpR X (compareOp .NotIn) (rInS X.K true) := fun pins s σ H x y v u Q I rx ry h => op_notIn_seq pins s σ H x y v u Q I rx ry (by unfold rInS at h; exact h)
section
variable {K : PySem.W.Frag} {H : Hp} {p : Addr} {x : V} {xs : List V} {Q : VK}
theorem inT_go (h : SqT K H p xs) (fx : flatV x = true) (fs : xs.all flatV = true) (q : Q (.bl (inV x xs)) H) : rInS K false x (.ref p) H Q := by
  unfold rInS
  exact ⟨p, xs, rfl, .inr h, fx, fs, q⟩
theorem inL_go (h : SqL K H p xs) (fx : flatV x = true) (fs : xs.all flatV = true) (q : Q (.bl (inV x xs)) H) : rInS K false x (.ref p) H Q := by
  unfold rInS
  exact ⟨p, xs, rfl, .inl h, fx, fs, q⟩
theorem niT_go (h : SqT K H p xs) (fx : flatV x = true) (fs : xs.all flatV = true) (q : Q (.bl (!inV x xs)) H) : rInS K true x (.ref p) H Q := by
  unfold rInS
  exact ⟨p, xs, rfl, .inr h, fx, fs, q⟩
theorem niL_go (h : SqL K H p xs) (fx : flatV x = true) (fs : xs.all flatV = true) (q : Q (.bl (!inV x xs)) H) : rInS K true x (.ref p) H Q := by
  unfold rInS
  exact ⟨p, xs, rfl, .inl h, fx, fs, q⟩
end
/-! ### == of two pairs (text, tuple) -/
theorem eqD_nest {K : PySem.W.Frag} {H : Hp} {a b p q : Addr} {s : Str} {xs : List V} {Q : VK} (h1 : SqT K H a [.str s, .ref p]) (h2 : SqT K H b [.str s, .ref q]) (hp : SqT K H p xs) (hq : SqT K H q xs) (hs : okS s = true) (f : xs.all flatS = true) (k : Q (.bl true) H) : rEqD K (.ref a) (.ref b) H Q := by
  have e := layAll_pd f
  have sh : SeqAt.shaped (.tuple [.str s, .tuple (xs.map pd)]) = true := by
    unfold SeqAt.shaped
    simp only [PyData.canLay0, PyData.canLayAll0, PyData.depth, PyData.depthAll, e.1, e.2, okS_ok hs]
    decide
  refine ⟨_, _, .tup h1 (.cons (.str s) (.cons (.tup hp (dpAll_pd f)) .nil)), .tup h2 (.cons (.str s) (.cons (.tup hq (dpAll_pd f)) .nil)), sh, sh, ?_⟩
  rw [SeqAt.eqv_refl _ (SeqAt.canLay_of_shaped sh)]
  exact k
/-! ### xs[i] = v -/
@[irreducible] def rSetLi : V → V → V → Hp → (Hp → Prop) → Prop := fun o i v H Q => rSetL o i v H Q
theorem set_li {X : Cx} : PSet X rSetLi := fun pins s σ H o i v ov iv u Q I ro ri rv h => set_list pins s σ H o i v ov iv u Q I ro ri rv (by unfold rSetLi at h; exact h)
theorem setL_go {H : Hp} {p : Addr} {xs : List V} {k : Int} {j : Nat} {v : V} {Q : Hp → Prop} (h : H p = some (.lst xs)) (e : ixN xs.length k = some j) (q : Q (upd H p (.lst (xs.set j v)))) : rSetLi (.ref p) (.int k) v H Q := by
  unfold rSetLi
  exact ⟨p, xs, k, j, rfl, rfl, h, e, q⟩
/-! ### slices -/
section
variable {K : PySem.W.Frag} {H : Hp} {p : Addr} {xs : List V} {lo hi : Option Int} {Q : VK}
theorem slL_go (h : SqL K H p xs) (q : ∀ r, H r = none → Q (.ref r) (upd H r (.lst (cutV xs lo hi)))) : rSlL K (.ref p) lo hi H Q := ⟨p, xs, rfl, h, q⟩
end
/-! ### comprehensions over a list -/
theorem upd_upd {H : Hp} {a : Addr} {o o' : HO} : upd (upd H a o) a o' = upd H a o' := by
  funext b
  by_cases e : b = a
  · subst e
    rw [upd_same, upd_same]
  · rw [upd_ne e, upd_ne e, upd_ne e]
theorem hp_upd {H : Hp} {a p : Addr} {o o' : HO} (e : H p = none) (h : H a = some o) : upd H p o' a = some o := (upd_ne (ne_of_none h e)).trans h
section
variable {K : PySem.W.Frag} {a D : Addr} {g : TG} {tt : TT} {te : TE} {vs : List Nat} {σ : L2.St} {H1 : Hp} {Qd : Hp → Prop}
/-- [x for x in ns if p x] -/
theorem lc_fil {ns : List Int} (p : Int → Bool) (hD : H1 D = none) (hl : SqL K H1 a (ns.map V.int)) (hn : ns.length < sizeLine)
    (hs : ∀ z H (N : Hp → Prop) acc, H D = some (.lst acc) → acc.length < sizeLine → (p z = true → N (upd H D (.lst (acc ++ [.int z])))) → (p z = false → N H) →
      g (.int z) (wipe σ vs) H fun σ2 H2 => wipe σ2 vs = wipe σ vs ∧ tt σ2 H2 fun b H3 => if b = true then te σ2 H3 fun y H4 => ∃ acc, H4 D = some (.lst acc) ∧ acc.length < sizeLine ∧ N (upd H4 D (.lst (acc ++ [y]))) else N H3)
    (hd : Qd (upd H1 D (.lst ((ns.filter p).map V.int)))) :
    ∃ W : Nat → Nat → Hp → Prop, (∃ m, W 0 m (upd H1 D (.lst []))) ∧ ∀ i m H, W i m H →
      ((Itl K a).stop i H ∧ Qd H) ∨ ((Itl K a).go i H ∧ ∃ Nx : Hp → Prop, (∀ H', Nx H' → ∃ m', m' < m ∧ W (i + 1) m' H') ∧ ∀ x H', (Itl K a).yld i H x H' → g x (wipe σ vs) H' fun σ2 H2 => wipe σ2 vs = wipe σ vs ∧ tt σ2 H2 fun b H3 =>
        if b = true then te σ2 H3 fun y H4 => ∃ acc, H4 D = some (.lst acc) ∧ acc.length < sizeLine ∧ Nx (upd H4 D (.lst (acc ++ [y]))) else Nx H3) := by
  refine lc_list (xs := ns.map V.int) (fun i H => H = upd H1 D (.lst (((ns.take i).filter p).map V.int))) rfl (fun i H _ e => e ▸ lst_upd hD hl) ?_ ?_
  · rintro i x H hx rfl
    rw [List.getElem?_map] at hx
    cases hz : ns[i]? with
    | none => rw [hz] at hx; cases hx
    | some z =>
      rw [hz] at hx
      cases hx
      have ht : ns.take (i + 1) = ns.take i ++ [z] := by rw [List.take_add_one, hz]; rfl
      refine hs z _ _ _ upd_same ?_ (fun c => ?_) (fun c => ?_)
      · rw [List.length_map]
        refine Nat.lt_of_le_of_lt (List.length_filter_le _ _) (Nat.lt_of_le_of_lt ?_ hn)
        rw [List.length_take]
        exact Nat.min_le_right _ _
      · rw [ht, List.filter_append, List.map_append, upd_upd]
        simp [c]
      · rw [ht, List.filter_append]
        simp [c]
  · rintro H rfl
    rw [List.length_map, List.take_length]
    exact hd
/-- [f x for x in xs] -/
theorem lc_mp {xs : List V} (f : V → V) (hD : H1 D = none) (hl : SqL K H1 a xs) (hn : xs.length < sizeLine)
    (hs : ∀ (i : Nat) (x : V) (H : Hp) (N : Hp → Prop) (acc : List V), xs[i]? = some x → Same H1 H → H D = some (.lst acc) → acc.length < sizeLine → (∀ H', Same H1 H' → H' D = some (.lst (acc ++ [f x])) → N H') →
      g x (wipe σ vs) H fun σ2 H2 => wipe σ2 vs = wipe σ vs ∧ tt σ2 H2 fun b H3 => if b = true then te σ2 H3 fun y H4 => ∃ acc, H4 D = some (.lst acc) ∧ acc.length < sizeLine ∧ N (upd H4 D (.lst (acc ++ [y]))) else N H3)
    (hd : ∀ H', Same H1 H' → H' D = some (.lst (xs.map f)) → Qd H') :
    ∃ W : Nat → Nat → Hp → Prop, (∃ m, W 0 m (upd H1 D (.lst []))) ∧ ∀ i m H, W i m H →
      ((Itl K a).stop i H ∧ Qd H) ∨ ((Itl K a).go i H ∧ ∃ Nx : Hp → Prop, (∀ H', Nx H' → ∃ m', m' < m ∧ W (i + 1) m' H') ∧ ∀ x H', (Itl K a).yld i H x H' → g x (wipe σ vs) H' fun σ2 H2 => wipe σ2 vs = wipe σ vs ∧ tt σ2 H2 fun b H3 =>
        if b = true then te σ2 H3 fun y H4 => ∃ acc, H4 D = some (.lst acc) ∧ acc.length < sizeLine ∧ Nx (upd H4 D (.lst (acc ++ [y]))) else Nx H3) := by
  refine lc_list (xs := xs) (fun i H => Same H1 H ∧ H D = some (.lst ((xs.take i).map f))) ⟨same_new (Same.refl _) hD, upd_same⟩ (fun i H _ e => same_lst e.1 hl) ?_ ?_
  · rintro i x H hx ⟨s, e⟩
    have ht : xs.take (i + 1) = xs.take i ++ [x] := by rw [List.take_add_one, hx]; rfl
    refine hs i x _ _ _ hx s e ?_ fun H' s' e' => ?_
    · rw [List.length_map, List.length_take]
      exact Nat.lt_of_le_of_lt (Nat.min_le_right _ _) hn
    · refine ⟨s', ?_⟩
      rw [ht, List.map_append]
      exact e'
  · rintro H ⟨s, e⟩
    rw [List.take_length] at e
    exact hd H s e
end
/-! ### comprehensions over a range -/
section
variable {D : Addr} {g : TG} {tt : TT} {te : TE} {vs : List Nat} {σ : L2.St} {H1 : Hp} {Qd : Hp → Prop}
theorem lc_rgm {n : Nat} (f : Nat → V) (hD : H1 D = none) (hn : n < sizeLine)
    (hs : ∀ (i : Nat) (H : Hp) (N : Hp → Prop) (acc : List V), i < n → Same H1 H → H D = some (.lst acc) → acc.length < sizeLine → (∀ H', Same H1 H' → H' D = some (.lst (acc ++ [f i])) → N H') →
      g (.int (0 + (i : Nat))) (wipe σ vs) H fun σ2 H2 => wipe σ2 vs = wipe σ vs ∧ tt σ2 H2 fun b H3 => if b = true then te σ2 H3 fun y H4 => ∃ acc, H4 D = some (.lst acc) ∧ acc.length < sizeLine ∧ N (upd H4 D (.lst (acc ++ [y]))) else N H3)
    (hd : ∀ H', Same H1 H' → H' D = some (.lst ((List.range n).map f)) → Qd H') :
    ∃ W : Nat → Nat → Hp → Prop, (∃ m, W 0 m (upd H1 D (.lst []))) ∧ ∀ i m H, W i m H →
      ((Itr 0 n).stop i H ∧ Qd H) ∨ ((Itr 0 n).go i H ∧ ∃ Nx : Hp → Prop, (∀ H', Nx H' → ∃ m', m' < m ∧ W (i + 1) m' H') ∧ ∀ x H', (Itr 0 n).yld i H x H' → g x (wipe σ vs) H' fun σ2 H2 => wipe σ2 vs = wipe σ vs ∧ tt σ2 H2 fun b H3 =>
        if b = true then te σ2 H3 fun y H4 => ∃ acc, H4 D = some (.lst acc) ∧ acc.length < sizeLine ∧ Nx (upd H4 D (.lst (acc ++ [y]))) else Nx H3) := by
  refine lc_range (fun i H => Same H1 H ∧ H D = some (.lst ((List.range i).map f))) ⟨same_new (Same.refl _) hD, upd_same⟩ ?_ fun H e => hd H e.1 e.2
  rintro i H hi ⟨s, e⟩
  refine hs i H _ _ hi s e ?_ fun H' s' e' => ⟨s', ?_⟩
  · rw [List.length_map, List.length_range]
    exact Nat.lt_trans hi hn
  · rw [List.range_succ, List.map_append]
    exact e'
end
theorem range_rep {n : Nat} {v : Int} : (List.range n).map (fun _ => V.int v) = (List.replicate n v).map V.int := by
  rw [List.map_const', List.length_range, List.map_replicate]
/-! ### max of a list -/
@[irreducible] def rMxl (K : PySem.W.Frag) : List V → Hp → VK → Prop := fun vs H Q => rMax K vs H Q
theorem call_mxl {X : Cx} (hc : X.calm = true) : CallR X (.builtin "max") (rMxl X.K) := fun pins s σ H xs us Q I r h => cr_max hc pins s σ H xs us Q I r (by unfold rMxl at h; exact h)
theorem mxl_go {K : PySem.W.Frag} {H : Hp} {p : Addr} {ns : List Int} {Q : VK} (h : SqL K H p (ns.map V.int)) (h0 : 0 < ns.length) (q : ∀ m, m ∈ ns → (∀ y, y ∈ ns → y ≤ m) → Q (.int m) H) : rMxl K [.ref p] H Q := by
  unfold rMxl
  exact ⟨p, ns, rfl, h, h0, q⟩
/-! ### x is True -/
@[irreducible] def rIsB : R2 := fun x y H Q => ∃ b c, x = .bl b ∧ y = .bl c ∧ Q (.bl (b == c)) H
@[irreducible] def rNotB : R2 := fun x y H Q => ∃ b c, x = .bl b ∧ y = .bl c ∧ Q (.bl (!(b == c))) H
section
variable {X : Cx} {b c : Bool} {H : Hp} {Q : VK}
theorem op_isB : OpR X (compareOp .Is) rIsB := fun pins s σ H x y v u Q I rx ry h => by
  unfold rIsB at h
  obtain ⟨b, c, rfl, rfl, q⟩ := h
  cases (show v = Value.bool b from rx)
  cases (show u = Value.bool c from ry)
  refine PySem.wpAny_is_plain rfl ⟨.bl (b == c), H, I, ?_, q⟩
  cases b <;> cases c <;> rfl
theorem op_notB : OpR X (compareOp .IsNot) rNotB := fun pins s σ H x y v u Q I rx ry h => by
  unfold rNotB at h
  obtain ⟨b, c, rfl, rfl, q⟩ := h
  cases (show v = Value.bool b from rx)
  cases (show u = Value.bool c from ry)
  refine PySem.wpAny_isNot_plain rfl ⟨.bl (!(b == c)), H, I, ?_, q⟩
  cases b <;> cases c <;> rfl
theorem isB_go (q : Q (.bl (b == c)) H) : rIsB (.bl b) (.bl c) H Q := by
  unfold rIsB
  exact ⟨b, c, rfl, rfl, q⟩
theorem notB_go (q : Q (.bl (!(b == c))) H) : rNotB (.bl b) (.bl c) H Q := by
  unfold rNotB
  exact ⟨b, c, rfl, rfl, q⟩
end
theorem tC_go {v : V} {σ : L2.St} {H : Hp} {Q : VK} (q : Q v H) : tC v σ H Q := q
theorem tNoPart_go {σ : L2.St} {H : Hp} {Q : Option Int → Hp → Prop} (q : Q none H) : tNoPart σ H Q := q
/-! ### list(xs) -/
@[irreducible] def rLo (K : PySem.W.Frag) : List V → Hp → VK → Prop := fun vs H Q => ∃ p xs, vs = [.ref p] ∧ (SqL K H p xs ∨ SqT K H p xs) ∧ ∀ l, H l = none → Q (.ref l) (upd H l (.lst xs))
theorem call_lo {X : Cx} : CallR X (.type "list") (rLo X.K) := fun pins s σ H xs us Q I r h => call_list_of pins s σ H xs us Q I r (by unfold rLo at h; exact h)
section
variable {K : PySem.W.Frag} {H : Hp} {p : Addr} {xs : List V} {Q : VK}
theorem lo_l (h : SqL K H p xs) (q : ∀ l, H l = none → Q (.ref l) (upd H l (.lst xs))) : rLo K [.ref p] H Q := by
  unfold rLo
  exact ⟨p, xs, rfl, .inl h, q⟩
theorem lo_t (h : SqT K H p xs) (q : ∀ l, H l = none → Q (.ref l) (upd H l (.lst xs))) : rLo K [.ref p] H Q := by
  unfold rLo
  exact ⟨p, xs, rfl, .inr h, q⟩
end
theorem flatI {fl : List Int} : (fl.map V.int).all flatS = true := by
  rw [List.all_map]
  exact List.all_eq_true.mpr fun _ _ => rfl
/-! ### xs + ys -/
@[irreducible] def rCt : R2 := fun x y H Q => rCat x y H Q
theorem op_ct {X : Cx} : OpR X (binaryOp .Add) rCt := fun pins s σ H x y v u Q I rx ry h => op_cat pins s σ H x y v u Q I rx ry (by unfold rCt at h; exact h)
theorem ct_go {H : Hp} {a b : Addr} {xs ys : List V} {Q : VK} (h1 : H a = some (.lst xs)) (h2 : H b = some (.lst ys)) (hl : xs.length + ys.length ≤ sizeLine) (q : ∀ r, H r = none → Q (.ref r) (upd H r (.lst (xs ++ ys)))) : rCt (.ref a) (.ref b) H Q := by
  unfold rCt
  exact ⟨a, b, xs, ys, rfl, rfl, h1, h2, hl, q⟩
/-! ### f() -/
section
variable {X : Cx} {CX : CXT} {k : Nat} {f : Addr} {fd : FuncData} {sp : Sp} {E : L2.St → XK} {x : Str} {p pos : Pos}
def tCall0 (sp : Sp) (E : L2.St → XK) : TE := fun σ H Q => sp [] H Q (E σ)
theorem pe_callS0 (F : FnOk X.prog X.w X.K X.mg X.base CX k f fd [] sp) (hr : Room k X.A) (hg : Gl X x) (hm : X.mg x = some (.ref f)) (hk : PySem.W.keepIn X.K (.ref f) = true) (hb : Binds X.K fd [] []) (hx : ∀ σ, PassesAt CX X σ (E σ))
    (hdb : (x == ("__debug__" : Str)) = false := by decide) : PE X (.Call (.Name x p) [] [] pos) (tCall0 sp E) := by
  refine ⟨fun pins s σ H Q I h => ?_⟩
  refine wpAny_Call_Name_kw (ld_glob I hg hm ?_ hdb)
  exact PySem.W.callWith_K0 I.kIn hk (run_fnS (us := []) F hr hb (hx σ) I .nil h)
end
end LB

set_option Elab.async false
set_option linter.all false
set_option maxRecDepth 100000
set_option maxHeartbeats 4000000
/-! an own exception whose __init__ begins with super().__init__(..), over ValueError through own classes -/
namespace LB
open PySem PySem.Spec PyProof.Rows L2 NdefX
/-- what the written part says of such a class: at C, its __init__ at fI, that one's code at cda, the cell of __class__ at cc -/
structure SupC (P : Program) (K : PySem.W.Frag) (mg : Str → Option Value) (C fI cc cda : Addr) : Prop where
  ox : OexC K C
  iC : PySem.W.findIn K (.ref C) "__init__" = some (some (.ref fI))
  tI : PySem.W.typeIn K (.ref fI) = some (.type "function")
  cell : ∃ cl cld csl, K.lookup cc = some ⟨cl, cld, .cell (some (.ref C)), csl⟩
  code : ∃ ccl cdd vs ccs file tf, K.lookup cda = some ⟨ccl, cdd, .fields vs, ccs⟩ ∧ vs[2]? = some (.str file tf) ∧ ((P.main.file : Str) == file) = true
  top : (P.main.scope.names.lookup ("super" : Str)).isSome = false
  zs : mg "super" = none
  self : PySem.W.mroIn K C (.ref C) = some true
  third : PySem.W.nsIn K cStatics "thirdparty.any" = some none
  sup : PySem.W.ks_superIn K C C "__init__" = some (some (.builtin "ValueError.__init__"))
  ve : PySem.W.subIn K (.ref C) (.type "ValueError") = some true
section
variable {CX : CXT} {P : Program} {w : World} {K : PySem.W.Frag} {mg : Str → Option Value} {base : Heap} {C fI cc cda : Addr}
/-- the wrapper's call: the exception's args are laid anew -/
theorem sup_call {X : Cx} {pins : List (Addr × Obj)} {σ : L2.St} {H : Hp} {s : Shared} {a u : Addr} {us : List Value} {A : Around} {E : Value → Shared → Prop} {Q : Value → Shared → Prop} (T : OexC X.K C) (I : Inv X pins σ H s) (e : H a = some (exo a C none))
    (hu : s.heap.get? u = some (PySem.W.kxs_mw "ValueError.__init__" a)) (hl : us.length ≤ sizeLine) (h : ∀ s', Inv X pins σ H s' → Q .none s') : wpAny (model X.prog X.w) A (call (.ref u) us) Q E s := by
  obtain ⟨nm, q, N, bs, bm, sn, sub, ab, col, dd, k0, k1, k2, k3, k5, hC, hbm⟩ := T.cls
  obtain ⟨t1, ho⟩ := exo_at I.hok e
  have hCh := I.kIn _ _ hC
  obtain ⟨hp, g, d, t, os⟩ := s
  refine wpAny_call (codeAny_of_tree ?_)
  show wpAny _ A.in1 (callAny (.ref u) ⟨us, []⟩) _ _ _
  simp only [callAny]
  refine wpAny_bind (wpAny_load hu ?_)
  simp only [PySem.W.kxs_mw, show (Value.type "method-wrapper" == Value.type "method" || Value.type "method-wrapper" == Value.type "builtin_function_or_method" || Value.type "method-wrapper" == Value.type "method-wrapper") = true by decide, if_true]
  refine PySem.W.KFB.if_so (by decide) ?_
  refine wpAny_bind (PySem.W.check_bound_init F.excBase_ValueError.toExcCallFacts hCh ho rfl ?_)
  refine wpAny_bind (wpAny_pure (wpAny_pure ?_))
  refine ⟨plainId_quiet F.excBase_ValueError.init.plain _, codeAny_builtin F.excBase_ValueError.initEntry ?_⟩
  refine PySem.W.exc_init_tree (cls := .ref C) (t0 := t1) (dv := none) (c2 := .none) (c3 := .none) (b4 := .bool false) ho hl fun h' k hx _ => ?_
  have J := I.write (t' := t) (x := a) (e := a) (o := exo a C none) (by rw [e]; exact True.intro) (.inl rfl) k ⟨_, hx⟩ (exo_ok hx)
  have eu : upd H a (exo a C none) = H := by
    funext b
    by_cases hb : b = a
    · rw [hb, upd_same, e]
    · rw [upd_ne hb]
  rw [eu] at J
  exact h _ J
end
/-- the first statement -/
abbrev supS (p1 p2 p3 p4 p5 : Pos) (e : Expr) (es : List Expr) : Stmt := .Expr (.Call (.Attribute (.Call (.Name "super" p1) [] [] p2) "__init__" p3) (e :: es) [] p4) p5
theorem looks_mro {M : Model} {K : PySem.W.Frag} {h : Heap} {C : Addr} {cd : ClassData} (X : K.In h) (hc : PySem.W.clsIn K C = some cd) : PySem.W.Looks M h (mroOf (.ref C)) cd.mro := fun A Q E s k q => wpAny_bind ((PySem.W.looks_clsIn X hc) A _ E s k (wpAny_pure q))
section
variable {CX : CXT} {P : Program} {w : World} {K : PySem.W.Frag} {mg : Str → Option Value} {base : Heap} {C fI cc cda : Addr} {N ps : List Str} {k : Nat} {sp : Sp} {name qual : Str} {params : Arguments} {rest : List Stmt} {scope : Scope} {p1 p2 p3 p4 p5 : Pos} {e : Expr} {es : List Expr}
theorem sup_ok {F : NF} {oc doc pm ct : Value} {od : Option Addr} {osl : Array (Option Value)} (T : SupC P K mg C fI cc cda) (hB : F.body = supS p1 p2 p3 p4 p5 e es :: rest) (hcl : F.cl = [(("__class__" : Str), cc)]) (hca : F.c = cda)
    (lk : K.lookup fI = some ⟨oc, od, .func (F.fd doc pm ct), osl⟩) (hcd : PySem.W.codeIn K (.ref cda) F.qual = true)
    (S : NScope N (("self" : Str) :: ps) ["__class__"] F.scope) (hps : (F.params.posonlyargs ++ F.params.args).head?.map (·.arg) = some ("self" : Str)) (hks : F.scope.names.lookup ("super" : Str) = some .globalImplicit)
    (hb : ∀ us : List Value, us.length = (("self" : Str) :: ps).length → bindArgs (F.fd doc pm ct) ⟨us, []⟩ = pure ((("self" : Str) :: ps).zip us))
    (he : ∀ L, starEach (e :: es) (envF F fI L) = (false, eval e (envF F fI L)) :: starEach es (envF F fI L))
    (hpl : ∀ L, (backTo p4 (starEach es (envF F fI L))).any (·.1) = false)
    (hsw : ∀ L, swapsWith (.Call (.Attribute (.Call (.Name "super" p1) [] [] p2) "__init__" p3) (e :: es) [] p4) none p5.line (envF F fI L) = pure false)
    (hev : ∀ L, ∃ pl, eval (.Call (.Attribute (.Call (.Name "super" p1) [] [] p2) "__init__" p3) (e :: es) [] p4) (envF F fI L) = (do
      let ov ← attributeBase (.Call (.Name "super" p1) [] [] p2) "__init__" (envF F fI L) (eval (.Call (.Name "super" p1) [] [] p2) (envF F fI L))
      standAt p3.atName
      let (f, first) ← holding [ov] (getMethod ov "__init__" pl)
      callWith p4 f first (backTo p4 (starEach (e :: es) (envF F fI L))) []))
    (len : ∀ vs H Q E, sp vs H Q E → vs.length = (("self" : Str) :: ps).length)
    (hbody : ∀ (A : Around) (outer : List Env) (s : Shared) (H : Hp) (vs : List V) (Q : VK) (E : XK), sp vs H Q E →
      ∃ (a : Addr) (xs : List V) (ta : TA) (t : TS), vs = .ref a :: xs ∧ H a = some (exo a C none) ∧ PA (ncx CX P w K mg base N F fI A outer s H E) (e :: es) ta ∧
        PSs (ncx CX P w K mg base N F fI A outer s H E) rest t ∧
        ta (startF N vs [some (.ref C)]) H fun us H1 => us.length ≤ 1000 ∧ H1 a = some (exo a C none) ∧ t { nx := fun _ H' => Q .non H', rt := Q } (startF N vs [some (.ref C)]) H1) :
    FnOk P w K mg base CX (k + 1) fI (F.fd doc pm ct) (("self" : Str) :: ps) sp := by
  obtain ⟨fn_, fq, fp, fb, fs, fcl, fc⟩ := F
  dsimp only at hB hcl hca hcd S hps hks
  subst hB hcl hca
  refine ⟨len, fun A outer s H args us vs Q E hr e0 hbi r hsp => ?_⟩
  have hl := len _ _ _ _ hsp
  have lim : s.heap.NoLimit := e0.mod.nolimit.keeps fun b o e => (e0.bs b o e).1
  have KX : K.In s.heap := e0.mod.kin.keeps fun b o e => (e0.bs b o e).1
  obtain ⟨a, xs, ta, t, rfl, ea, ha, hrest, hq⟩ := hbody A outer s H vs Q E hsp
  obtain ⟨cl, cld, csl, hcell⟩ := T.cell
  obtain ⟨ccl, cdd, cvs, ccs, file, tf, hcode, hvs, hfile⟩ := T.code
  obtain ⟨nm, q0, N0, bs, bm, sn, sub, ab, col, dd, k0, k1, k2, k3, k5, hC, hbm⟩ := T.ox.cls
  obtain ⟨u0, ur, rfl, ru0, rur⟩ : ∃ u0 ur, us = u0 :: ur ∧ RelV (.ref a) u0 ∧ Vals xs ur := by
    cases r with
    | cons h1 h2 => exact ⟨_, _, rfl, h1, h2⟩
  obtain rfl : u0 = Value.ref a := ru0
  have hul : (Value.ref a :: ur).length = (("self" : Str) :: ps).length := r.length.symm.trans hl
  refine ks_codeAny_call_defAt hr.depth (KX _ _ lk) rfl lim (PySem.W.codeRec_of KX hcd) rfl hbi S.nocell (fun ⟨n, _⟩ hy => S.par n (List.of_mem_zip hy).1) (fun h₁ hns kp => ?_) S.co S.gen S.kind
  have CA : CellsAt [(("__class__" : Str), cc)] ["__class__"] [some (.ref C)] s.heap H := by
    have hk : H cc = none := by
      have := (e0.bs cc _ (e0.mod.kin _ _ hcell)).2
      exact this
    have f : ∀ (z : Str) (c' : Addr), List.lookup z [(("__class__" : Str), cc)] = some c' → z = "__class__" ∧ c' = cc := fun z c' h => by
      by_cases q : z = ("__class__" : Str)
      · subst q
        have : some cc = some c' := by simpa [List.lookup] using h
        exact ⟨rfl, (Option.some.inj this).symm⟩
      · have q2 : (z == ("__class__" : Str)) = false := by simpa using q
        simp [List.lookup, q2] at h
    refine ⟨rfl, fun y c hy => ?_, fun x y c hx hy => (f x c hx).1.trans (f y c hy).1.symm, fun i y hi => ?_⟩
    · obtain ⟨_, rfl⟩ := f y c hy
      exact ⟨hk, _, ⟨_, KX _ _ hcell, rfl⟩⟩
    · cases i with
      | zero =>
        have ey : y = "__class__" := (Option.some.inj hi).symm
        subst ey
        exact ⟨cc, by simp [List.lookup], fun v hv => ⟨.ref C, by cases hv; rfl, ⟨_, KX _ _ hcell, rfl⟩⟩⟩
      | succ n => simp at hi
  have I : Inv (ncx CX P w K mg base N (⟨fn_, fq, fp, supS p1 p2 p3 p4 p5 e es :: rest, fs, [(("__class__" : Str), cc)], fc⟩ : NF) fI A outer s H E) [] (startF N (.ref a :: xs) [some (.ref C)]) H { s with heap := h₁, toks := s.toks + ((("self" : Str) :: ps).zip (Value.ref a :: ur)).length } := inv_startN S hr.hd e0 hl r CA hns kp
  refine ks_wpAt_execs_cons (ks_wpAt_Expr_any ?_ (I.quiet) (hsw _))
  obtain ⟨pl, hev⟩ := hev s.heap.objs.size
  refine ks_wpAt_MethodCall ?_ hev
  obtain ⟨ar, hp, har⟩ : ∃ ar, (fp.posonlyargs ++ fp.args).head? = some ar ∧ ar.arg = "self" := by
    cases z : (fp.posonlyargs ++ fp.args).head? with
    | none => rw [z] at hps; cases hps
    | some ar => rw [z] at hps; exact ⟨ar, rfl, Option.some.inj hps⟩
  have hnd : (("self" : Str) :: ps).Nodup := by
    have q := S.nd.sublist (List.take_sublist ((("self" : Str) :: ps).length + [("__class__" : Str)].length) N)
    rw [S.pre] at q
    exact (List.nodup_append.mp q).1
  have hself : ((("self" : Str) :: ps).zip (Value.ref a :: ur)).reverse.lookup ("self" : Str) = some (Value.ref a) := zip_look (i := 0) hnd rfl rfl
  have hcd' : PySem.W.clsIn K C = some { name := nm, bases := bs, mro := .ref C :: bm, ns := N0, qualname := q0, hasDict := true, slotNames := sn, subclasses := sub, abstract := ab, collection := col, hasDel := false } := by unfold PySem.W.clsIn; rw [hC] <;> rfl
  obtain ⟨t1, ho⟩ := exo_at I.hok ea
  have X1 := I.kIn
  refine ks_wpAt_super_base (env := envF (⟨fn_, fq, fp, supS p1 p2 p3 p4 p5 e es :: rest, fs, [(("__class__" : Str), cc)], fc⟩ : NF) fI s.heap.objs.size) hks (S.frk _ List.mem_cons_self) (by decide) rfl (X1 _ _ lk) rfl hp rfl (X1 _ _ hcode) rfl hvs hfile T.top ?_
  obtain ⟨mb, hb1, hb2⟩ := I.mod.blt
  refine PySem.W.ks_loadName_global S.kind hks (PySem.Calls.loadGlobal_builtin (env := envF (⟨fn_, fq, fp, supS p1 p2 p3 p4 p5 e es :: rest, fs, [(("__class__" : Str), cc)], fc⟩ : NF) fI s.heap.objs.size) (I.mod.glob.keeps I.bk) T.zs (hb1.keeps I.bk) ((hb2 _ (by decide +kernel)).trans (show bootBuiltins "super" = some (.type "super") by decide +kernel)) ⟨rfl, ?_⟩)
  refine wpAny_loadName_free S.kind (S.frk _ List.mem_cons_self) rfl ⟨_, X1 _ _ hcell, rfl⟩ ?_
  rw [har]
  refine wpAny_loadName_local S.kind (S.par _ List.mem_cons_self) hns hself ?_
  refine ks_wpAny_isType_cls (X1 _ _ hC) rfl ⟨rfl, ?_⟩
  refine ks_wpAny_call_super (X1 _ _ hC) rfl ho rfl (fun c z => nomatch z) (PySem.W.looks_mroIn X1 T.self) (fun h2 e2 k2 => ?_)
  have I2 := I.kept (t' := s.toks + ((("self" : Str) :: ps).zip (Value.ref a :: ur)).length) k2
  have X2 := I2.kIn
  -- the method
  have hsup := T.sup
  unfold PySem.W.ks_superIn at hsup
  rw [hcd', Option.bind_some] at hsup
  have haC : a ≠ C := fun z => by
    have q1 := X1 _ _ hC
    rw [← z] at q1
    have q2 : some _ = some _ := ho.symm.trans q1
    cases q2
  refine PySem.W.kxs_getMethod PySem.W.kxs_ValueError e2 (PySem.W.looks_opaque X2 T.third) (looks_mro X2 hcd') rfl X2 hsup
    (PySem.W.Looks.andThen (PySem.W.InstAt.type (od := none) ⟨k2 _ _ ho, rfl, rfl, trivial⟩) (PySem.W.looks_subIn X2 T.ve)) haC (by decide) ?_
  have k3' : ∀ b o, h2.get? b = some o → (h2.push (PySem.W.kxs_mw "ValueError.__init__" a)).get? b = some o := fun b o z => Heap.get?_push_of_some _ z
  have hmw : (h2.push (PySem.W.kxs_mw "ValueError.__init__" a)).get? h2.objs.size = some (PySem.W.kxs_mw "ValueError.__init__" a) := Heap.get?_push_at rfl rfl
  have I3 := I2.kept (t' := s.toks + ((("self" : Str) :: ps).zip (Value.ref a :: ur)).length + 1) k3'
  have hfr : H h2.objs.size = none := I2.hok.fresh (Nat.le_refl _)
  have hnL : h2.objs.size ≠ s.heap.objs.size := Nat.ne_of_gt I2.lt
  have hnf : h2.objs.size ∉ (ncx CX P w K mg base N (⟨fn_, fq, fp, supS p1 p2 p3 p4 p5 e es :: rest, fs, [(("__class__" : Str), cc)], fc⟩ : NF) fI A outer s H E).fs := I2.nofs (Nat.le_refl _)
  have I4 : Inv (ncx CX P w K mg base N (⟨fn_, fq, fp, supS p1 p2 p3 p4 p5 e es :: rest, fs, [(("__class__" : Str), cc)], fc⟩ : NF) fI A outer s H E) [(h2.objs.size, PySem.W.kxs_mw "ValueError.__init__" a)] (startF N (.ref a :: xs) [some (.ref C)]) H { s with heap := h2.push (PySem.W.kxs_mw "ValueError.__init__" a), toks := s.toks + ((("self" : Str) :: ps).zip (Value.ref a :: ur)).length + 1 } :=
    I3.pins_of fun p hp => by
      have hp' : p ∈ [(h2.objs.size, PySem.W.kxs_mw "ValueError.__init__" a)] := hp
      obtain rfl := List.mem_singleton.mp hp'
      exact ⟨hmw, hfr, hnL, hnf, fun v z => nomatch z⟩
  refine PySem.W.kxs_callWith (i := "ValueError.__init__") (x := a) ?_ ?_
  · refine Eq.trans (congrArg (fun z => (backTo p4 z).any (·.1)) (he s.heap.objs.size)) ?_
    show (false || (backTo p4 (starEach es (envF (⟨fn_, fq, fp, supS p1 p2 p3 p4 p5 e es :: rest, fs, [(("__class__" : Str), cc)], fc⟩ : NF) fI s.heap.objs.size))).any (·.1)) = false
    rw [hpl]; rfl
  have hrun : wpAny (model P w) (A.deeper (envF (⟨fn_, fq, fp, supS p1 p2 p3 p4 p5 e es :: rest, fs, [(("__class__" : Str), cc)], fc⟩ : NF) fI s.heap.objs.size)) (spliced (backTo p4 (starEach (e :: es) (envF (⟨fn_, fq, fp, supS p1 p2 p3 p4 p5 e es :: rest, fs, [(("__class__" : Str), cc)], fc⟩ : NF) fI s.heap.objs.size)))) _ _ _ := ha.run p4 _ _ _ H _ I4 hq
  rw [he] at hrun
  show wpAny _ _ (evalArgs _ true (backTo p4 (starEach (e :: es) (envF (⟨fn_, fq, fp, supS p1 p2 p3 p4 p5 e es :: rest, fs, [(("__class__" : Str), cc)], fc⟩ : NF) fI s.heap.objs.size))) []) _ _ _
  rw [he]
  refine PySem.Calls.evalArgs_plain (thn hrun fun us' s5 hh => ?_)
  obtain ⟨vs5, H5, I5, r5, l5, ea5, q5⟩ := hh
  have hp5 := I5.pin (h2.objs.size, PySem.W.kxs_mw "ValueError.__init__" a) (List.mem_append_right _ List.mem_cons_self)
  refine ⟨hp5.1, ?_⟩
  refine sup_call T.ox I5 ea5 hp5.1 (by show us'.length ≤ sizeLine; rw [← r5.length, sizeLine_eq]; omega) fun s6 I6 => ?_
  refine wpAt_of_wpAny (wpAny_mono (hrest.run _ s6 _ H5 _ I6 q5) (fun fl s' hs => ?_) fun e s' hs => hs)
  have fin : ∀ {σ' : L2.St} {H' : Hp} {v : V} {u : Value}, Inv (ncx CX P w K mg base N (⟨fn_, fq, fp, supS p1 p2 p3 p4 p5 e es :: rest, fs, [(("__class__" : Str), cc)], fc⟩ : NF) fI A outer s H E) [(h2.objs.size, PySem.W.kxs_mw "ValueError.__init__" a)] σ' H' s' → RelV v u → Q v H' → CE outer P w H s Q u s' :=
    fun {σ' H' v u} J rv q => ⟨v, H', J.os, J.bare, J.base, J.hok, rv, q⟩
  cases fl with
  | ret u =>
    obtain ⟨v, σ', H', J, rv, q⟩ := hs
    exact fin J rv q
  | next =>
    obtain ⟨σ', H', J, q⟩ := hs
    exact fin (v := V.non) (u := Value.none) J rfl q
  | brk =>
    obtain ⟨_, _, _, q⟩ := hs
    exact False.elim q
  | cont =>
    obtain ⟨_, _, _, q⟩ := hs
    exact False.elim q
end
end LB
namespace LB
open PySem PySem.Spec PyProof.Rows L2 NdefX
/-! ### the promise of such an __init__, and what C(..) leaves -/
/-- its fields are told by the arguments -/
def sp_exc (C : Addr) (cond : List V → Prop) (fs : List V → List (Str × V)) (n : Nat) : Sp := fun vs H Q _ => ∃ (a : Addr) (xs : List V), vs = .ref a :: xs ∧ xs.length = n ∧ H a = some (exo a C none) ∧ cond xs ∧
  ∀ (d : Addr) (H' : Hp), H d = none → d ≠ a → H' a = some (exo a C (some d)) → H' d = some (exd d (fs xs)) → (∀ b, b ≠ a → b ≠ d → H' b = H b) → Q .non H'
def tExc (C : Addr) (cond : List V → Prop) (fs : List V → List (Str × V)) (n : Nat) (ta : TA) : L2.St → Hp → XK → Prop := fun σ H Q => ta σ H fun vs H1 => vs.length = n ∧ cond vs ∧ ∀ d, H1 d = none → Q (.ref C) (some d) (upd H1 d (.xd (fs vs)))
structure ExcOk (P : Program) (w : World) (K : PySem.W.Frag) (mg : Str → Option Value) (base : Heap) (C : Addr) (cond : List V → Prop) (fs : List V → List (Str × V)) (n : Nat) : Prop where
  ox : OexC K C
  iC : ∃ fI, PySem.W.findIn K (.ref C) "__init__" = some (some (.ref fI)) ∧ PySem.W.typeIn K (.ref fI) = some (.type "function") ∧ ∃ fd ps, FnOk P w K mg base (L2.CX P w) 1 fI fd ps (sp_exc C cond fs n) ∧ Binds K fd ps []
section
variable {X : Cx} {C : Addr} {cond : List V → Prop} {fs : List V → List (Str × V)} {n : Nat} {x : Str} {p pos pos2 : Pos} {e : Expr} {es : List Expr} {ta : TA} {W : WX}
theorem pmk_exc (T : ExcOk X.prog X.w X.K X.mg X.base C cond fs n) (hn : n ≤ 1000) (hr : Room 2 X.A) (hg : Gl X x) (hm : X.mg x = some (.ref C)) (ha : PA X (e :: es) ta)
    (hdb : (x == ("__debug__" : Str)) = false := by decide) (he : starEach (e :: es) X.env = (false, eval e X.env) :: starEach es X.env := by rfl) (hpl : (backTo pos (starEach es X.env)).any (·.1) = false := by rfl) :
    PMk X (.Call (.Name x p) (e :: es) [] pos) (tExc C cond fs n ta) := by
  obtain ⟨fI, iC, tI, fd, ps, G, b⟩ := T.iC
  have ha2 : PA X (e :: es) (fun σ H R => ∃ R0 : List V → Hp → Prop, ta σ H R0 ∧ ∀ vs H1, R0 vs H1 → R vs H1) := ⟨fun pos pins s σ H R I h => by
    obtain ⟨R0, h0, h1⟩ := h
    refine thn (ha.run pos pins s σ H R0 I h0) fun us s' q => ?_
    obtain ⟨vs, H1, I1, r1, q1⟩ := q
    exact ⟨vs, H1, I1, r1, h1 vs H1 q1⟩⟩
  have key := pmk_oex (CX := L2.CX X.prog X.w) (ds := []) (dvs := []) (pos := pos) (p := p) T.ox iC tI G hr b .nil passX hg hm ha2 hdb he hpl
  intro pins s σ H Q I h
  refine key pins s σ H Q I ⟨_, h, fun vs H1 q => ?_⟩
  obtain ⟨hl, hc, q⟩ := q
  refine ⟨by omega, fun a ha => ?_⟩
  rw [List.append_nil]
  refine ⟨a, vs, rfl, hl, upd_same, hc, fun d H' hd hda e1 e2 e3 => ⟨rfl, d, fs vs, e1, e2, by rw [upd_ne hda] at hd; exact hd, ?_⟩⟩
  have hd1 : H1 d = none := by rw [upd_ne hda] at hd; exact hd
  have eq : upd (del H' a) d (.xd (fs vs)) = upd H1 d (.xd (fs vs)) := by
    funext b
    by_cases hb : b = d
    · rw [hb, upd_same, upd_same]
    · rw [upd_ne hb, upd_ne hb]
      by_cases hba : b = a
      · rw [hba, del_same, ha]
      · rw [del_ne hba, e3 b hba hb, upd_ne hba]
  rw [eq]
  exact q d hd1
theorem ps_raiseX (hc : X.calm = true) (tk : Takes X W) (T : ExcOk X.prog X.w X.K X.mg X.base C cond fs n) (hn : n ≤ 1000) (hr : Room 2 X.A) (hg : Gl X x) (hm : X.mg x = some (.ref C)) (ha : PA X (e :: es) ta)
    (hdb : (x == ("__debug__" : Str)) = false := by decide) (he : starEach (e :: es) X.env = (false, eval e X.env) :: starEach es X.env := by rfl) (hpl : (backTo pos (starEach es X.env)).any (·.1) = false := by rfl) :
    PS X (.Raise (some (.Call (.Name x p) (e :: es) [] pos)) none pos2) (fun _ σ H => tExc C cond fs n ta σ H fun cls d H' => W cls d σ H') := ps_raise hc tk (pmk_exc T hn hr hg hm ha hdb he hpl)
end
/-! ### the class as the text has it -/
/-- C with its __init__ st, as the top leaves them -/
structure XTxt (P : Program) (K : PySem.W.Frag) (mg : Str → Option Value) (qual : Str) (st : Stmt) (C : Addr) : Prop where
  ex : ∃ (fI cc cda : Addr) (oc doc pm ct : Value) (od : Option Addr) (osl : Array (Option Value)), SupC P K mg C fI cc cda ∧
    K.lookup fI = some ⟨oc, od, .func ((⟨"__init__", qual, defArgs st, defBody st, defScope st, [(("__class__" : Str), cc)], cda⟩ : NF).fd doc pm ct), osl⟩ ∧ PySem.W.codeIn K (.ref cda) qual = true
section
variable {P : Program} {w : World} {K : PySem.W.Frag} {mg : Str → Option Value} {base : Heap} {C : Addr} {qual : Str} {st : Stmt} {cond : List V → Prop} {fs : List V → List (Str × V)} {n : Nat} {N ps : List Str} {rest : List Stmt} {p1 p2 p3 p4 p5 : Pos} {e : Expr} {es : List Expr}
theorem XTxt.ok (T : XTxt P K mg qual st C) (hB : defBody st = supS p1 p2 p3 p4 p5 e es :: rest) (hn : n = ps.length)
    (S : NScope N (("self" : Str) :: ps) ["__class__"] (defScope st)) (hps : ((defArgs st).posonlyargs ++ (defArgs st).args).head?.map (·.arg) = some ("self" : Str)) (hks : (defScope st).names.lookup ("super" : Str) = some .globalImplicit)
    (hb : ∀ (cc cda : Addr) (doc pm ct : Value) (us : List Value), us.length = (("self" : Str) :: ps).length → bindArgs ((⟨"__init__", qual, defArgs st, defBody st, defScope st, [(("__class__" : Str), cc)], cda⟩ : NF).fd doc pm ct) ⟨us, []⟩ = pure ((("self" : Str) :: ps).zip us))
    (he : ∀ (cc cda fI L : Addr), starEach (e :: es) (envF ⟨"__init__", qual, defArgs st, defBody st, defScope st, [(("__class__" : Str), cc)], cda⟩ fI L) = (false, eval e (envF ⟨"__init__", qual, defArgs st, defBody st, defScope st, [(("__class__" : Str), cc)], cda⟩ fI L)) :: starEach es (envF ⟨"__init__", qual, defArgs st, defBody st, defScope st, [(("__class__" : Str), cc)], cda⟩ fI L))
    (hpl : ∀ (cc cda fI L : Addr), (backTo p4 (starEach es (envF ⟨"__init__", qual, defArgs st, defBody st, defScope st, [(("__class__" : Str), cc)], cda⟩ fI L))).any (·.1) = false)
    (hsw : ∀ (cc cda fI L : Addr), swapsWith (.Call (.Attribute (.Call (.Name "super" p1) [] [] p2) "__init__" p3) (e :: es) [] p4) none p5.line (envF ⟨"__init__", qual, defArgs st, defBody st, defScope st, [(("__class__" : Str), cc)], cda⟩ fI L) = pure false)
    (hev : ∀ (cc cda fI L : Addr), ∃ pl, eval (.Call (.Attribute (.Call (.Name "super" p1) [] [] p2) "__init__" p3) (e :: es) [] p4) (envF ⟨"__init__", qual, defArgs st, defBody st, defScope st, [(("__class__" : Str), cc)], cda⟩ fI L) = (do
      let ov ← attributeBase (.Call (.Name "super" p1) [] [] p2) "__init__" (envF ⟨"__init__", qual, defArgs st, defBody st, defScope st, [(("__class__" : Str), cc)], cda⟩ fI L) (eval (.Call (.Name "super" p1) [] [] p2) (envF ⟨"__init__", qual, defArgs st, defBody st, defScope st, [(("__class__" : Str), cc)], cda⟩ fI L))
      standAt p3.atName
      let (f, first) ← holding [ov] (getMethod ov "__init__" pl)
      callWith p4 f first (backTo p4 (starEach (e :: es) (envF ⟨"__init__", qual, defArgs st, defBody st, defScope st, [(("__class__" : Str), cc)], cda⟩ fI L))) []))
    (hbody : ∀ (X : Cx) (cc cda fI L : Addr), X.K = K → X.N = N → X.env = envF ⟨"__init__", qual, defArgs st, defBody st, defScope st, [(("__class__" : Str), cc)], cda⟩ fI L → OexC K C →
      ∃ (ta : TA) (t : TS), PA X (e :: es) ta ∧ PSs X rest t ∧ ∀ (a : Addr) (xs : List V) (H : Hp) (Q : VK), xs.length = n → H a = some (exo a C none) → cond xs →
        (∀ (d : Addr) (H' : Hp), H d = none → d ≠ a → H' a = some (exo a C (some d)) → H' d = some (exd d (fs xs)) → (∀ b, b ≠ a → b ≠ d → H' b = H b) → Q .non H') →
        ta (startF N (.ref a :: xs) [some (.ref C)]) H fun us H1 => us.length ≤ 1000 ∧ H1 a = some (exo a C none) ∧ t { nx := fun _ H' => Q .non H', rt := Q } (startF N (.ref a :: xs) [some (.ref C)]) H1) :
    ExcOk P w K mg base C cond fs n := by
  obtain ⟨fI, cc, cda, oc, doc, pm, ct, od, osl, Z, lk, hcd⟩ := T.ex
  refine ⟨Z.ox, fI, Z.iC, Z.tI, _, _, sup_ok (F := ⟨"__init__", qual, defArgs st, defBody st, defScope st, [(("__class__" : Str), cc)], cda⟩) (k := 0) (N := N) (ps := ps) (sp := sp_exc C cond fs n) Z hB rfl rfl lk hcd S hps hks (hb cc cda doc pm ct) (he cc cda fI) (hpl cc cda fI) (hsw cc cda fI) (hev cc cda fI) (fun vs H Q E h => ?_) (fun A outer s H vs Q E h => ?_), .all (hb cc cda doc pm ct)⟩
  · obtain ⟨a, xs, rfl, hl, _⟩ := h
    show xs.length + 1 = ps.length + 1
    omega
  · obtain ⟨a, xs, rfl, hl, ea, hc, q⟩ := h
    obtain ⟨ta, t, h1, h2, h3⟩ := hbody (ncx (L2.CX P w) P w K mg base N ⟨"__init__", qual, defArgs st, defBody st, defScope st, [(("__class__" : Str), cc)], cda⟩ fI A outer s H E) cc cda fI s.heap.objs.size rfl rfl rfl Z.ox
    exact ⟨a, xs, ta, t, rfl, ea, h1, h2, h3 a xs H Q hl ea hc q⟩
/-- two stores behind one another, the first one the exception's first -/
theorem two_stores {K : PySem.W.Frag} {a C : Addr} {f1 f2 : Str} {to1 te1 to2 te2 : TE} {D : Ends} {σ : L2.St} {H : Hp} {y1 y2 : V} (T : OexC K C) (h1 : PySem.W.findIn K (.ref C) f1 = some none) (h2 : PySem.W.findIn K (.ref C) f2 = some none) (ea : H a = some (exo a C none))
    (e1 : ∀ (H1 : Hp) (Q : VK), Q y1 H1 → te1 σ H1 Q) (e2 : ∀ (H1 : Hp) (Q : VK), Q y2 H1 → te2 σ H1 Q) (o1 : ∀ (H1 : Hp) (Q : VK), Q (.ref a) H1 → to1 σ H1 Q) (o2 : ∀ (H1 : Hp) (Q : VK), Q (.ref a) H1 → to2 σ H1 Q)
    (q : ∀ (d : Addr) (H' : Hp), H d = none → d ≠ a → H' a = some (exo a C (some d)) → H' d = some (exd d [(f2, y2), (f1, y1)]) → (∀ b, b ≠ a → b ≠ d → H' b = H b) → D.nx σ H') : tSeq (tOst K f1 to1 te1) (tOst K f2 to2 te2) D σ H := by
  refine e1 _ _ (o1 _ _ ⟨a, C, rfl, T, h1, .inl ⟨ea, fun d hd hda => ?_⟩⟩)
  refine e2 _ _ (o2 _ _ ⟨a, C, rfl, T, h2, .inr ⟨d, [(f1, y1)], upd_same, by rw [upd_ne hda, upd_same], (by show 1 ≤ 900; decide), ?_⟩⟩)
  refine q d _ hd hda (by rw [upd_ne hda.symm, upd_same]) upd_same fun b hb hbd => ?_
  rw [upd_ne hbd, upd_ne hb, upd_ne hbd]
/-- four of them -/
theorem four_stores {K : PySem.W.Frag} {a C : Addr} {f1 f2 f3 f4 : Str} {to1 te1 to2 te2 to3 te3 to4 te4 : TE} {D : Ends} {σ : L2.St} {H : Hp} {y1 y2 y3 y4 : V} (T : OexC K C) (h1 : PySem.W.findIn K (.ref C) f1 = some none) (h2 : PySem.W.findIn K (.ref C) f2 = some none) (h3 : PySem.W.findIn K (.ref C) f3 = some none) (h4 : PySem.W.findIn K (.ref C) f4 = some none) (ea : H a = some (exo a C none))
    (e1 : ∀ (H1 : Hp) (Q : VK), Q y1 H1 → te1 σ H1 Q) (e2 : ∀ (H1 : Hp) (Q : VK), Q y2 H1 → te2 σ H1 Q) (e3 : ∀ (H1 : Hp) (Q : VK), Q y3 H1 → te3 σ H1 Q) (e4 : ∀ (H1 : Hp) (Q : VK), Q y4 H1 → te4 σ H1 Q)
    (o1 : ∀ (H1 : Hp) (Q : VK), Q (.ref a) H1 → to1 σ H1 Q) (o2 : ∀ (H1 : Hp) (Q : VK), Q (.ref a) H1 → to2 σ H1 Q) (o3 : ∀ (H1 : Hp) (Q : VK), Q (.ref a) H1 → to3 σ H1 Q) (o4 : ∀ (H1 : Hp) (Q : VK), Q (.ref a) H1 → to4 σ H1 Q)
    (q : ∀ (d : Addr) (H' : Hp), H d = none → d ≠ a → H' a = some (exo a C (some d)) → H' d = some (exd d [(f4, y4), (f3, y3), (f2, y2), (f1, y1)]) → (∀ b, b ≠ a → b ≠ d → H' b = H b) → D.nx σ H') : tSeq (tOst K f1 to1 te1) (tSeq (tOst K f2 to2 te2) (tSeq (tOst K f3 to3 te3) (tOst K f4 to4 te4))) D σ H := by
  refine e1 _ _ (o1 _ _ ⟨a, C, rfl, T, h1, .inl ⟨ea, fun d hd hda => ?_⟩⟩)
  refine e2 _ _ (o2 _ _ ⟨a, C, rfl, T, h2, .inr ⟨d, [(f1, y1)], upd_same, by rw [upd_ne hda, upd_same], (by show 1 ≤ 900; decide), ?_⟩⟩)
  refine e3 _ _ (o3 _ _ ⟨a, C, rfl, T, h3, .inr ⟨d, [(f2, y2), (f1, y1)], by rw [upd_ne hda.symm, upd_same], upd_same, (by show 2 ≤ 900; decide), ?_⟩⟩)
  refine e4 _ _ (o4 _ _ ⟨a, C, rfl, T, h4, .inr ⟨d, [(f3, y3), (f2, y2), (f1, y1)], by rw [upd_ne hda.symm, upd_ne hda.symm, upd_same], upd_same, (by show 3 ≤ 900; decide), ?_⟩⟩)
  refine q d _ hd hda (by rw [upd_ne hda.symm, upd_ne hda.symm, upd_ne hda.symm, upd_same]) upd_same fun b hb hbd => ?_
  rw [upd_ne hbd, upd_ne hbd, upd_ne hbd, upd_ne hb, upd_ne hbd]
end
end LB

set_option Elab.async false
set_option linter.all false
set_option maxRecDepth 100000
set_option maxHeartbeats 4000000
/-! several except clauses, each with or without a name; what is asked of the caught error -/
namespace LB
open PySem PySem.Spec PyProof.Rows L2
/-- behind a suite its name is empty -/
def goneE (i : Nat) (D : Ends) : Ends where
  nx := fun σ H => D.nx (σ.set i none) H
  rt := D.rt
  bk := fun σ H => D.bk (σ.set i none) H
  ct := fun σ H => D.ct (σ.set i none) H
abbrev Clause := Value × Option Nat × (Addr → Value → Option Addr → TS)
/-- what the suite of a clause is asked, the error at a -/
def inSuite (D : Ends) (nm : Option Nat) (t : TS) (a : Addr) (σ : L2.St) (H : Hp) : Prop := match nm with
  | none => t D σ H
  | some i => t (goneE i D) (σ.set i (some (.ref a))) H
def wX (K : PySem.W.Frag) (Wout : WX) (D : Ends) : List Clause → WX
  | [] => Wout
  | (c, nm, ts) :: r => fun cls d σ H => ∃ b, PySem.W.exmOne K cls c = some b ∧ (b = true → ∀ a, H a = none → inSuite D nm (ts a cls d) a σ H) ∧ (b = false → wX K Wout D r cls d σ H)
inductive HdsX (X : Cx) : List ExceptHandler → List Clause → Prop
  | nil : HdsX X [] []
  | plain {x : Str} {c : Value} {ts : Addr → Value → Option Addr → TS} {st : Stmt} {sts : List Stmt} {q1 q2 : Pos} {hds : List ExceptHandler} {l : List Clause} (hc : Names X x c)
      (suite : ∀ (a : Addr) (oe : Obj) (cls : Value) (d : Option Addr) (pn : List (Addr × Obj)), Zc cls d oe → (∃ us, oe.data = .fields us) → PSs (X.suite a ((a, oe) :: pn)) (st :: sts) (ts a cls d)) (more : HdsX X hds l) :
      HdsX X (.ExceptHandler (some (.Name x q1)) none (st :: sts) q2 :: hds) ((c, none, ts) :: l)
  | named {x n : Str} {i : Nat} {c : Value} {ts : Addr → Value → Option Addr → TS} {st : Stmt} {sts : List Stmt} {q1 q2 : Pos} {hds : List ExceptHandler} {l : List Clause} (hN : X.N.Nodup) (hi : X.N[i]? = some n) (hln : X.env.kindOf n = some .local) (hc : Names X x c)
      (suite : ∀ (a : Addr) (oe : Obj) (cls : Value) (d : Option Addr) (pn : List (Addr × Obj)), Zc cls d oe → (∃ us, oe.data = .fields us) → PSs (X.suite a ((a, oe) :: pn)) (st :: sts) (ts a cls d)) (more : HdsX X hds l) :
      HdsX X (.ExceptHandler (some (.Name x q1)) (some n) (st :: sts) q2 :: hds) ((c, some i, ts) :: l)
section
variable {X : Cx} {pins : List (Addr × Obj)} {σ : L2.St} {H : Hp} {sI sN : Shared} {a : Addr} {B : Heap} {cls : Value} {d : Option Addr}
/-- an error that has landed at this frame: the state without it, the ground, where it stands -/
structure Landed (X : Cx) (pins : List (Addr × Obj)) (σ : L2.St) (H : Hp) (sI sN : Shared) (a : Addr) (B : Heap) (cls : Value) (d : Option Addr) : Prop where
  st : X.stack = X.env :: X.outer
  fr : X.env.frame = some X.env.locals
  I : Inv X pins σ H sI
  nb : ∀ b o, sI.heap.get? b = some o → b ∉ frs X.stack → B.get? b = some o
  up : sI.heap.UpToSlots sN.heap
  na : H a = none
  os : sN.os = sI.os
  ag : AllBare sN.gens
  fly : HandSPX.FlyingZ B (X.env :: X.outer) a (Zc cls d) sN.heap
theorem Landed.inv (L : Landed X pins σ H sI sN a B cls d) : Inv X pins σ H sN := L.I.landed L.nb L.fly.1 L.up L.os L.ag
theorem Landed.off (L : Landed X pins σ H sI sN a B cls d) : a ≠ X.env.locals ∧ a ∉ X.fs := by
  obtain ⟨oe, us, e1, e2, e3⟩ := L.fly.there
  have key : a ∉ frs (X.env :: X.outer) := fun hm => by
    obtain ⟨_, o2, q1, q2⟩ := L.fly.2.2.1.mem hm
    rw [e1] at q1
    cases q1
    exact q2 _ e3
  refine ⟨fun z => key (List.mem_filterMap.mpr ⟨X.env, List.mem_cons_self, by rw [L.fr, z]⟩), fun hm => ?_⟩
  obtain ⟨v, h1, h2⟩ := List.mem_filterMap.mp hm
  exact key (List.mem_filterMap.mpr ⟨v, List.mem_cons_of_mem _ h1, h2⟩)
/-- the clauses, one behind the other -/
theorem clauses {Wout : WX} {D : Ends} (tk : Takes X Wout) (L : Landed X pins σ H sI sN a B cls d) : ∀ {hds : List ExceptHandler} {l : List Clause}, HdsX X hds l → wX X.K Wout D l cls d σ H →
    wpAny (model X.prog X.w) X.A (handleBy (.ref a) X.env hds) (SP X pins D) X.xe sN := by
  intro hds l hk
  have ok := L.I.ok
  have J := L.inv
  obtain ⟨off1, off2⟩ := L.off
  obtain ⟨oe3, us3, g3, z3, f3⟩ := L.fly.there
  have S3 := J.suite g3 f3 L.na off1 off2
  -- a clause's class is read, and asked
  have ask : ∀ {x : Str} {c : Value} {q1 : Pos} {b : Bool} {Q : Bool → Shared → Prop}, Names X x c → PySem.W.exmOne X.K cls c = some b → Q b sN → True := fun _ _ _ => trivial
  have name : ∀ {x : Str} {c : Value} {q1 : Pos} {Q : Value → Shared → Prop} {E : Value → Shared → Prop}, Names X x c → Q c sN → wpAny (model X.prog X.w) (X.A.mark (some (.ref a))) (eval (.Name x q1) X.env) Q E sN := fun hc q => by
    obtain ⟨h1, h2, h3⟩ := hc
    rcases h3 with h3 | ⟨h3, h4, h5⟩
    · exact ld_glob (X := X.suite a ((a, oe3) :: (X.pn ++ pins))) S3 h1 h3 q h2
    · exact ld_blt (X := X.suite a ((a, oe3) :: (X.pn ++ pins))) S3 h1 h3 h4 q h5 h2
  have LT : PySem.W.Looks (model X.prog X.w) sN.heap (typeOf (.ref a)) cls := fun A Q E s k q => wpAny_typeOf_ref (k _ _ g3) (by rw [z3.1]; exact q)
  induction hk with
  | nil =>
    intro wish
    refine wpAny_handleBy_nil ?_
    obtain ⟨_, _, _, oe, us, tr, _, _, e1, e2, e3, e4, _⟩ := id L.fly
    unfold PySem.passOn
    refine wpAny_bind (wpAny_field e1 e3 e4 ?_)
    rw [if_neg (show (Value.ref tr == Value.none) = true → False from by simp)]
    have away : wpAny (model X.prog X.w) X.A (setFlight (.ref a) X.env.frame) (fun _ s4 => wpAny (model X.prog X.w) X.A (throw (.ref a) : Sem Flow) (SP X pins D) X.xe s4) X.xe sN := by
      rw [L.fr]
      refine HandSPX.setFlight_upZ L.fly fun h4 held up4 => wpAny_throw (tk _ _ ?_)
      refine ⟨a, B, sI, pins, σ, H, cls, d, rfl, L.I, L.nb, L.up.trans up4, .inr (.inr ?_), L.na, L.os, L.ag, wish⟩
      rw [L.st]
      exact held
    first
      | exact wpAny_bind (wpAny_pure (wpAny_bind away))
      | exact wpAny_bind away
  | @plain x c ts st sts q1 q2 hds2 l2 hc suite more ih =>
    rintro ⟨b, e1, yes, no⟩
    refine wpAny_handleBy_cons (codeAny_handlers_test ?_) (by intro z; cases z)
    refine name hc ((PySem.W.exm_one (M := model X.prog X.w) J.kIn LT e1).here ?_)
    cases b with
    | false => exact ih (no rfl)
    | true =>
      refine codeAny_handlers_suite (HandSPX.lands_againZ L.fly fun h4 fl4 up4 => ?_)
      have J4 : Inv X pins σ H { sN with heap := h4 } := L.I.landed L.nb fl4.1 (L.up.trans up4) L.os L.ag
      obtain ⟨oe4, us4, g4, z4, f4⟩ := fl4.there
      refine wpAny_mono ((suite a oe4 cls d (X.pn ++ pins) z4 ⟨_, f4⟩).run [] _ _ H _ (J4.suite g4 f4 L.na off1 off2) (yes rfl a L.na)) (fun f s6 out => ?_) (fun _ _ z => False.elim z)
      cases f with
      | ret u =>
        obtain ⟨v6, σ6, H6, S6, r6, k6⟩ := out
        exact ⟨v6, σ6, H6, S6.unsuite ok, r6, k6⟩
      | next =>
        obtain ⟨σ6, H6, S6, k6⟩ := out
        exact ⟨σ6, H6, S6.unsuite ok, k6⟩
      | brk =>
        obtain ⟨σ6, H6, S6, k6⟩ := out
        exact ⟨σ6, H6, S6.unsuite ok, k6⟩
      | cont =>
        obtain ⟨σ6, H6, S6, k6⟩ := out
        exact ⟨σ6, H6, S6.unsuite ok, k6⟩
  | @named x n i c ts st sts q1 q2 hds2 l2 hN hi hln hc suite more ih =>
    rintro ⟨b, e1, yes, no⟩
    refine wpAny_handleBy_cons (codeAny_handlers_test ?_) (by intro z; cases z)
    refine name hc ((PySem.W.exm_one (M := model X.prog X.w) J.kIn LT e1).here ?_)
    cases b with
    | false => exact ih (no rfl)
    | true =>
      refine codeAny_handlers_suite_as (HandSPX.lands_againZ L.fly fun h4 fl4 up4 => ?_)
      have J4 : Inv X pins σ H { sN with heap := h4 } := L.I.landed L.nb fl4.1 (L.up.trans up4) L.os L.ag
      obtain ⟨oe4, us4, g4, z4, f4⟩ := fl4.there
      refine store_ok (X := X.suite a ((a, oe4) :: (X.pn ++ pins))) (v := .ref a) (J4.suite g4 f4 L.na off1 off2) hN hi (.inl hln) rfl (fun s5 S5 => ?_) (.inr hln)
      have leave : ∀ {σ6 : L2.St} {H6 : Hp} {s6 : Shared} {Q : Shared → Prop}, Inv (X.suite a ((a, oe4) :: (X.pn ++ pins))) [] σ6 H6 s6 → (∀ s7, Inv X pins (σ6.set i none) H6 s7 → Q s7) →
          wpAny (model X.prog X.w) X.A (do bindName X.env n .none; unbindBehindTheSuite X.env n q2) (fun _ s7 => Q s7) X.xe s6 := fun S6 k => gone_ok (S6.unsuite ok) hN hi hln k
      refine wpAny_mono ((suite a oe4 cls d (X.pn ++ pins) z4 ⟨_, f4⟩).run [] s5 _ H _ S5 (yes rfl a L.na)) (fun f s6 out => ?_) (fun _ _ z => False.elim z)
      cases f with
      | ret u =>
        obtain ⟨v6, σ6, H6, S6, r6, k6⟩ := out
        exact leave S6 fun s7 J7 => ⟨v6, _, H6, J7, r6, k6⟩
      | next =>
        obtain ⟨σ6, H6, S6, k6⟩ := out
        exact leave S6 fun s7 J7 => ⟨_, H6, J7, k6⟩
      | brk =>
        obtain ⟨σ6, H6, S6, k6⟩ := out
        exact leave S6 fun s7 J7 => ⟨_, H6, J7, k6⟩
      | cont =>
        obtain ⟨σ6, H6, S6, k6⟩ := out
        exact leave S6 fun s7 J7 => ⟨_, H6, J7, k6⟩
end
section
variable {X : Cx} {body : List Stmt} {hd₀ : ExceptHandler} {hds : List ExceptHandler} {l : List Clause} {pos : Pos} {tb : WX → TS} {Wout : WX}
theorem ps_tryX (st : X.stack = X.env :: X.outer) (fr : X.env.frame = some X.env.locals) (tk : Takes X Wout)
    (hb : ∀ (W : WX) (pn : List (Addr × Obj)) (xe : Value → Shared → Prop), Takes (X.tr pn xe) W → PassesOwn (model X.prog X.w) X.A X.env xe → PSs (X.tr pn xe) body (tb W)) (hh : HdsX X (hd₀ :: hds) l) :
    PS X (.Try body (hd₀ :: hds) [] [] pos) (fun D σ H => tb (wX X.K Wout D l) D σ H) := by
  refine ⟨fun pins s σ H D I h => ?_⟩
  have ok := I.ok
  have hfr : X.A.frames = some (X.env :: X.outer) := by rw [ok.frames, st]
  have run := hb (wX X.K Wout D l) (X.pn ++ pins) (fun er s1 => wpAny (model X.prog X.w) X.A (noteFrame er X.env) (fun _ s2 => wpAny (model X.prog X.w) X.A (setFlight er none) (fun _ s3 =>
    wpAny (model X.prog X.w) X.A (handleBy er X.env (hd₀ :: hds)) (SP X pins D) X.xe s3) X.xe s2) X.xe s1) (fun u sN air => ?_) PassesOwn.looking
  · refine wpAny_Try_except (wpAny_mono (run.run [] s σ H D (I.toTry _) h) (fun f s1 out => ?_) (fun er s1 he => he))
    cases f with
    | ret u =>
      obtain ⟨v6, σ6, H6, S6, r6, k6⟩ := out
      exact ⟨v6, σ6, H6, S6.ofTry ok, r6, k6⟩
    | next =>
      obtain ⟨σ6, H6, S6, k6⟩ := out
      exact wpAny_execs_nil ⟨σ6, H6, S6.ofTry ok, k6⟩
    | brk =>
      obtain ⟨σ6, H6, S6, k6⟩ := out
      exact ⟨σ6, H6, S6.ofTry ok, k6⟩
    | cont =>
      obtain ⟨σ6, H6, S6, k6⟩ := out
      exact ⟨σ6, H6, S6.ofTry ok, k6⟩
  · obtain ⟨a, B, sI, pins', σ', H', cls, d, rfl, J', nb, up, sky, na, os, ag, wish⟩ := air
    have sky' : Sky B (X.env :: X.outer) a (Zc cls d) X.env.locals sN.heap := by rw [← st]; exact sky
    refine Sky.land Zc.steady hfr fr sky' fun h3 fl3 up3 => ?_
    exact clauses (sN := { sN with heap := h3 }) tk ⟨st, fr, J'.ofTry ok, nb, up.trans up3, na, os, ag, fl3⟩ hh wish
end
end LB
/-! ### isinstance of the caught error -/
namespace PySem.W
open PySem PySem.Spec PySem.Calls PyProof.Rows
section
variable {prog : Program} {w : World} {A : Around} {E : Value → Shared → Prop} {s : Shared} {K : Frag} {x D : Addr} {ox : Obj} {od : Option Obj}
/-- what is asked of the class -/
structure LbExc (K : Frag) (D : Addr) : Prop where
  ga : findIn K (.ref D) "__getattribute__" = some (some (.builtin "BaseException.__getattribute__"))
  gg : findIn K (.ref D) "__getattr__" = some none
  sb : subIn K (.ref D) (.type "BaseException") = some true
  hd : hasDictIn K D = true
  ha : findIn K (.ref D) "__class__" = some (some (.builtin "object.__class__"))
  hn : specialIn K (.builtin "object.__class__") "__get__" = some (some (.builtin "getset_descriptor.__get__"))
  ht : takesIn K (.builtin "object.__class__") = some true
  hm : mroIn K D (.type "object") = some true
theorem lb_find (C : LbExc K D) : findObj K D od "__class__" = some (.bind (.builtin "getset_descriptor.__get__") (.builtin "object.__class__")) := by
  obtain ⟨cd, hc, _⟩ := any_some C.hd
  unfold findObj
  rw [hc, Option.bind_some, C.ha, Option.bind_some]
  simp [C.hn, C.ht]
theorem lb_class {Q : Option Value → Shared → Prop} (C : LbExc K D) (X : K.In s.heap) (I : InstAt s.heap x ox D od) (h : Q (some (.ref D)) { s with toks := s.toks + 1 }) : wpAny (model prog w) A (getAttr? (.ref x) "__class__") Q E s := by
  obtain ⟨hp, g, d, t, os⟩ := s
  have T := I.type (M := model prog w)
  have F3 := looks_find (M := model prog w) X I (lb_find (od := od) C)
  have ne : (Value.builtin "BaseException.__getattribute__" == Value.builtin "object.__getattribute__") = false := by decide +kernel
  unfold getAttr? getAttrBy? getAttrBy
  refine wpAny_bind (wpAny_mkText (wpAny_bind (wpAny_attempt (wpAny_holding (wpAny_bind (T.at (wpAny_bind ((looks_findIn (M := model prog w) X C.ga).at ?_))))))))
  dsimp only
  rw [if_neg (show ¬ (onTheHeap (Value.ref D) && Value.builtin "BaseException.__getattribute__" == Value.builtin "object.__getattribute__") = true by rw [ne, Bool.and_false]; exact Bool.false_ne_true)]
  unfold getAttrByItsOwn hookBefore
  refine wpAny_bind ?_
  rw [if_pos (show onTheHeap (Value.ref D) = true from rfl)]
  refine (looks_findIn (M := model prog w) X C.gg).at (wpAny_bind (wpAny_attempt (wpAny_holding ?_)))
  unfold callGetattribute
  rw [if_neg (show ¬ (false && onTheHeap (Value.builtin "BaseException.__getattribute__")) = true from Bool.false_ne_true)]
  unfold boundAndCalled
  rw [PySem.F.excAttr_ValueError.ga.bind (.ref x)]
  refine wpAny_bind (wpAny_pure (wpAny_call (codeAny_call_builtin PySem.F.excAttr_ValueError.ga.plain PySem.F.entry_bexc_ga ?_)))
  refine @check_slot (model prog w) _ _ ⟨hp, g, d, t + 1, os⟩ "BaseException.__getattribute__" "BaseException" "__getattribute__" (.ref x) [.str "__class__" t] [] _ (by decide +kernel) (by decide +kernel) (T.andThen (looks_subIn X C.sb)) (PySem.F.args_bexc_ga (.ref x) (.str "__class__" t)) ?_
  unfold Builtin.«object.__getattribute__»
  refine wpAny_bind (wpAny_of_eq (a := ((Value.ref x : Value), [Value.str "__class__" t])) (by first | rfl | (simp only [slotArgs]; rfl)) (wpAny_bind (wpAny_pure (wpAny_bind (T.at (wpAny_bind (F3.at ?_)))))))
  refine wpAny_bind (wpAny_holding (wpAny_call (class_get (s := ⟨hp, g, d, t + 1, os⟩) (ox := ox) (od := od) X I C.hm ?_)))
  refine wpAny_pure ?_
  show wpAny _ _ (handedOut (.ref D)) _ _ _
  rw [handedOut_of (v := .ref D) rfl]
  first
    | exact wpAny_pure (wpAny_pure h)
    | exact wpAny_pure h
    | exact wpAny_pure (wpAny_bind (wpAny_pure (wpAny_pure h)))
theorem lb_kit (C : LbExc K D) : KitX K (.ref x) (.ref D) (fun h => ∃ ox od, InstAt h x ox D od) where
  ty := fun _ _ _ ⟨_, _, I⟩ => I.type
  it := fun _ _ X _ => by
    obtain ⟨cdD, hcD, _⟩ := any_some C.hd
    unfold clsIn at hcD
    split at hcD
    · rename_i ho
      intro A' Q' E' s' k q
      unfold isType loadHead
      exact wpAny_bind (wpAny_loadPart (k _ _ (X _ _ ho)) (wpAny_pure q))
    · cases hcD
  ne := fun h tp dd its n sl X htp => by
    obtain ⟨cdD, hcD, _⟩ := any_some C.hd
    refine Bool.eq_false_iff.mpr fun q => ?_
    obtain rfl : D = tp := Value.ref.inj (beq_iff_eq.mp q)
    unfold clsIn at hcD
    split at hcD
    · rename_i ho
      have z := (X _ _ ho).symm.trans htp
      cases z
    · cases hcD
  ca := fun X ⟨_, _, I⟩ k => lb_class C X I k
end
end PySem.W
namespace LB
open PySem PySem.Spec PyProof.Rows L2
@[irreducible] def rIsX (K : PySem.W.Frag) (a D : Addr) (cls : Value) (d : Option Addr) : List V → Hp → VK → Prop := fun xs H Q => ∃ (c : V) (cv : Value) (b : Bool), xs = [.ref a, c] ∧ cls = .ref D ∧ ClsV c cv ∧ PySem.W.kitOne K (.ref D) cv = some b ∧ (∃ dd fs, d = some dd ∧ H dd = some (.xd fs)) ∧ Q (.bl b) H
theorem call_isX {X : Cx} {a D : Addr} {oe : Obj} {cls : Value} {d : Option Addr} {pn : List (Addr × Obj)} (C : PySem.W.LbExc X.K D) (hz : Zc cls d oe) (hf : ∃ vs, oe.data = .fields vs) : CallR (X.suite a ((a, oe) :: pn)) (.builtin "isinstance") (rIsX X.K a D cls d) := by
  intro pins s σ H xs us Q I r h
  unfold rIsX at h
  obtain ⟨c, cv, b, rfl, rfl, hcv, e, ⟨dd, fs, rfl, ed⟩, q⟩ := h
  obtain ⟨u1, u2, rfl, r1, r2⟩ := vals2 r
  obtain rfl := hcv.eq r2
  obtain rfl : u1 = Value.ref a := r1
  obtain ⟨hget, _⟩ := I.pin (a, oe) (List.mem_append.mpr (.inl List.mem_cons_self))
  obtain ⟨vs, hv⟩ := hf
  have hx : ObjOk X.prog X.w H s.heap dd (.xd fs) := I.hok dd _ ed
  obtain ⟨mA, ⟨od, _, _, ho, _⟩, _⟩ := hx
  have J : PySem.W.InstAt s.heap a oe D (some od) := ⟨hget, hz.1, by unfold PySem.W.notCls; rw [hv] <;> rfl, by rw [hz.2]; exact ho⟩
  exact PySem.W.kia_one (PySem.W.lb_kit C) I.kIn ⟨oe, some od, J⟩ e (fun z => nomatch z) fun tk => ⟨.bl b, H, I.kept (t' := tk) fun _ _ z => z, rfl, q⟩
end LB
namespace LB
open PySem PySem.Spec PyProof.Rows L2
/-- an exception class of the text: what raising, catching and asking want of it -/
structure ECls (K : PySem.W.Frag) (C : Addr) : Prop where
  lx : PySem.W.LbExc K C
  ty : PySem.W.typeIn K (.ref C) = some (.type "type")
  self : PySem.W.mroIn K C (.ref C) = some true
theorem ECls.isCls {K : PySem.W.Frag} {C : Addr} (E : ECls K C) : ((PySem.W.clsIn K C).isSome && PySem.W.typeIn K (.ref C) == some (.type "type")) = true := by
  obtain ⟨cd, hc, _⟩ := PySem.W.any_some E.lx.hd
  rw [hc, E.ty]
  rfl
theorem ECls.exm {K : PySem.W.Frag} {Y C : Addr} {b : Bool} (E : ECls K C) (h : PySem.W.subIn K (.ref Y) (.ref C) = some b) : PySem.W.exmOne K (.ref Y) (.ref C) = some b :=
  PySem.W.exm_ref E.lx.sb E.lx.hd E.ty h
theorem ECls.kit {K : PySem.W.Frag} {Y C : Addr} {b : Bool} (E : ECls K C) (h : PySem.W.subIn K (.ref Y) (.ref C) = some b) : PySem.W.kitOne K (.ref Y) (.ref C) = some b := by
  unfold PySem.W.kitOne
  by_cases e : (Value.ref Y == Value.ref C) = true
  · rw [if_pos e]
    have e2 : Y = C := Value.ref.inj (beq_iff_eq.mp e)
    subst e2
    have h2 : PySem.W.mroIn K Y (.ref Y) = some b := h
    rw [E.self] at h2
    exact h2
  · rw [if_neg e]
    show (if ((PySem.W.clsIn K C).isSome && PySem.W.typeIn K (.ref C) == some (.type "type")) = true then PySem.W.subIn K (.ref Y) (.ref C) else none) = some b
    rw [if_pos E.isCls]
    exact h
theorem kit_ve {K : PySem.W.Frag} {Y : Addr} {b : Bool} (h : PySem.W.subIn K (.ref Y) (.type "ValueError") = some b) : PySem.W.kitOne K (.ref Y) (.type "ValueError") = some b := by
  unfold PySem.W.kitOne
  rw [if_neg (show ¬ (Value.ref Y == Value.type "ValueError") = true from fun z => nomatch beq_iff_eq.mp z)]
  show (if PySem.W.kitMeta "ValueError" = true then PySem.W.subIn K (.ref Y) (.type "ValueError") else none) = some b
  rw [if_pos (by decide +kernel)]
  exact h
theorem ECls.xf {K : PySem.W.Frag} {C : Addr} (E : ECls K C) : XfC K C := ⟨E.lx.ga, E.lx.gg, E.lx.sb, E.lx.hd⟩
/-- what an error with one own field holds -/
def fs1 (label field : Str) : List V → List (Str × V) := fun xs => [(field, xs.headD .non), ("label", .str label)]
def text1 : List V → Prop := fun xs => ∃ z : Str, xs = [.str z] ∧ z.length ≤ 1000000
theorem text_len (a z : Str) (h1 : a.length ≤ 1000) (h2 : z.length ≤ 1000000) : (Str.empty ++ a).length ≤ sizeLine ∧ (Str.empty ++ a ++ z).length ≤ sizeLine := by
  have e1 : ∀ x y : Str, (x ++ y).length = x.length + y.length := fun x y => Array.size_append
  have e0 : Str.empty.length = 0 := rfl
  rw [e1, e1, e1, e0, sizeLine_eq]
  omega
section
variable {K : PySem.W.Frag}
theorem wx_hit {Wout : WX} {D : Ends} {c cls : Value} {nm : Option Nat} {ts : Addr → Value → Option Addr → TS} {r : List Clause} {d : Option Addr} {σ : L2.St} {H : Hp} (e : PySem.W.exmOne K cls c = some true) (h : ∀ a, H a = none → inSuite D nm (ts a cls d) a σ H) :
    wX K Wout D ((c, nm, ts) :: r) cls d σ H := ⟨true, e, fun _ => h, fun z => nomatch z⟩
theorem wx_miss {Wout : WX} {D : Ends} {c cls : Value} {nm : Option Nat} {ts : Addr → Value → Option Addr → TS} {r : List Clause} {d : Option Addr} {σ : L2.St} {H : Hp} (e : PySem.W.exmOne K cls c = some false) (h : wX K Wout D r cls d σ H) :
    wX K Wout D ((c, nm, ts) :: r) cls d σ H := ⟨false, e, fun z => (nomatch z), fun _ => h⟩
theorem isX_go {a D C dd : Addr} {fs : List (Str × V)} {b : Bool} {H : Hp} {Q : VK} (k : PySem.W.kitOne K (.ref D) (.ref C) = some b) (e : H dd = some (.xd fs)) (q : Q (.bl b) H) : rIsX K a D (.ref D) (some dd) [.ref a, .ref C] H Q := by
  unfold rIsX
  exact ⟨_, _, b, rfl, rfl, .own _, k, ⟨dd, fs, rfl, e⟩, q⟩
theorem isX_ve {a D dd : Addr} {fs : List (Str × V)} {b : Bool} {H : Hp} {Q : VK} (k : PySem.W.subIn K (.ref D) (.type "ValueError") = some b) (e : H dd = some (.xd fs)) (q : Q (.bl b) H) : rIsX K a D (.ref D) (some dd) [.ref a, .ty "ValueError"] H Q := by
  unfold rIsX
  exact ⟨_, _, b, rfl, rfl, .ty _, kit_ve k, ⟨dd, fs, rfl, e⟩, q⟩
end
end LB

set_option Elab.async false
set_option linter.all false
set_option maxRecDepth 100000
set_option maxHeartbeats 4000000
/-! dicts that the top has written, with text keys -/
namespace LB
open PySem PySem.Spec PyProof.Rows L2
def kget : List (Str × V) → Str → Option V
  | [], _ => none
  | (k, v) :: r, z => if k = z then some v else kget r z
def dictB : List (Str × V) → List DictEntry → Bool
  | [], [] => true
  | (k, v) :: r, e :: es => (match e.key with
    | .str x _ => decide (x = k)
    | _ => false) && relB v e.val && dictB r es
  | _, _ => false
/-- what stands at the key z -/
def KAt (K : PySem.W.Frag) (d : Addr) (z : Str) (r : Option V) : Prop := ∃ u, PySem.W.nsIn K d z = some u ∧ match r, u with
  | some v, some w => RelV v w
  | none, none => True
  | _, _ => False
theorem find_at {z : Str} : ∀ {kvs : List (Str × V)} {es : List DictEntry}, dictB kvs es = true → es.any (·.refKey) = false ∧ (match kget kvs z, es.find? (·.key.isStr z) with
    | some v, some e => RelV v e.val
    | none, none => True
    | _, _ => False)
  | [], [], _ => ⟨rfl, by simp [kget]⟩
  | (k, v) :: r, e :: es, h => by
    have h1 := Bool.and_eq_true_iff.mp h
    have h2 := Bool.and_eq_true_iff.mp h1.1
    obtain ⟨i1, i2⟩ := find_at (z := z) h1.2
    obtain ⟨hash, key, val⟩ := e
    cases key with
    | str x t =>
      have ex : x = k := of_decide_eq_true h2.1
      subst ex
      refine ⟨?_, ?_⟩
      · rw [List.any_cons, i1]
        rfl
      · by_cases c : x = z
        · subst c
          simp only [kget, if_true, List.find?_cons, Value.isStr, beq_self_eq_true]
          exact relB_ok h2.2
        · have e2 : (x == z) = false := by simpa using c
          simp only [kget, c, if_false, List.find?_cons, Value.isStr, e2]
          exact i2
    | none => exact (Bool.false_ne_true h2.1).elim
    | ellipsis => exact (Bool.false_ne_true h2.1).elim
    | notImplemented => exact (Bool.false_ne_true h2.1).elim
    | bool b => exact (Bool.false_ne_true h2.1).elim
    | int b t => exact (Bool.false_ne_true h2.1).elim
    | float b t => exact (Bool.false_ne_true h2.1).elim
    | bytes b t => exact (Bool.false_ne_true h2.1).elim
    | type b => exact (Bool.false_ne_true h2.1).elim
    | builtin b => exact (Bool.false_ne_true h2.1).elim
    | ref b => exact (Bool.false_ne_true h2.1).elim
  | [], _ :: _, h => by cases h
  | _ :: _, [], h => by cases h
theorem kat_of {K : PySem.W.Frag} {d : Addr} {es : Array DictEntry} {n : Nat} {kvs : List (Str × V)} (l : K.lookup d = some ⟨.type "dict", none, .dict es n, #[]⟩) (h : dictB kvs es.toList = true) (z : Str) : KAt K d z (kget kvs z) := by
  obtain ⟨h1, h2⟩ := find_at (z := z) h
  unfold KAt PySem.W.nsIn
  rw [l]
  simp only
  cases e : es.toList.find? (·.key.isStr z) with
  | none =>
    rw [e] at h2
    refine ⟨none, ?_, ?_⟩
    · simp only [h1]
      rfl
    · cases f : kget kvs z with
      | none => trivial
      | some v => rw [f] at h2; exact h2
  | some w =>
    rw [e] at h2
    refine ⟨some w.val, rfl, ?_⟩
    cases f : kget kvs z with
    | none => rw [f] at h2; exact h2
    | some v => rw [f] at h2; exact h2
@[irreducible] def rKIn (K : PySem.W.Frag) (d : Addr) : R2 := fun x y H Q => ∃ (z : Str) (r : Option V), x = .str z ∧ y = .ref d ∧ KAt K d z r ∧ Q (.bl r.isSome) H
@[irreducible] def rKNotIn (K : PySem.W.Frag) (d : Addr) : R2 := fun x y H Q => ∃ (z : Str) (r : Option V), x = .str z ∧ y = .ref d ∧ KAt K d z r ∧ Q (.bl (!r.isSome)) H
@[irreducible] def rKGet (K : PySem.W.Frag) (d : Addr) : R2 := fun x y H Q => ∃ (z : Str) (v : V), x = .ref d ∧ y = .str z ∧ KAt K d z (some v) ∧ Q v H
section
variable {X : Cx} {d : Addr}
theorem op_kin (D : ∃ es n, KDict X.K X.w d es n) : OpR X (compareOp .In) (rKIn X.K d) := fun pins s σ H x y v u Q I rx ry h => by
  obtain ⟨es, n, D⟩ := D
  unfold rKIn at h
  obtain ⟨z, r, rfl, rfl, ⟨u0, h1, h2⟩, q⟩ := h
  refine op_in_kd D pins s σ H _ _ v u Q I rx ry ⟨z, u0, rfl, rfl, h1, ?_⟩
  have : u0.isSome = r.isSome := by
    cases r <;> cases u0 <;> first | rfl | exact h2.elim
  rw [this]
  exact q
theorem op_kni (D : ∃ es n, KDict X.K X.w d es n) : OpR X (compareOp .NotIn) (rKNotIn X.K d) := fun pins s σ H x y v u Q I rx ry h => by
  obtain ⟨es, n, D⟩ := D
  unfold rKNotIn at h
  obtain ⟨z, r, rfl, rfl, ⟨u0, h1, h2⟩, q⟩ := h
  refine op_notIn_kd D pins s σ H _ _ v u Q I rx ry ⟨z, u0, rfl, rfl, h1, ?_⟩
  have : u0.isSome = r.isSome := by
    cases r <;> cases u0 <;> first | rfl | exact h2.elim
  rw [this]
  exact q
theorem ix_kd (D : ∃ es n, KDict X.K X.w d es n) : IxR X (rKGet X.K d) := fun value slice pins s σ H x y v u Q I rx ry h hs => by
  obtain ⟨es, n, D⟩ := D
  unfold rKGet at h
  obtain ⟨z, v0, rfl, rfl, ⟨u0, h1, h2⟩, q⟩ := h
  cases u0 with
  | none => exact h2.elim
  | some u1 => exact ix_kdict value slice pins s σ H _ _ v u Q I rx ry ⟨d, z, v0, rfl, rfl, ⟨es, n, u1, D.at_, D.lit, h1, h2⟩, q⟩ hs
end
section
variable {K : PySem.W.Frag} {d : Addr} {z : Str} {r : Option V} {v : V} {H : Hp} {Q : VK}
theorem kin_go (g : KAt K d z r) (q : Q (.bl r.isSome) H) : rKIn K d (.str z) (.ref d) H Q := by
  unfold rKIn
  exact ⟨z, r, rfl, rfl, g, q⟩
theorem kni_go (g : KAt K d z r) (q : Q (.bl (!r.isSome)) H) : rKNotIn K d (.str z) (.ref d) H Q := by
  unfold rKNotIn
  exact ⟨z, r, rfl, rfl, g, q⟩
theorem kget_go (g : KAt K d z r) (e : r = some v) (q : Q v H) : rKGet K d (.ref d) (.str z) H Q := by
  subst e
  unfold rKGet
  exact ⟨z, v, rfl, rfl, g, q⟩
end
end LB

/-! days, months, years -/
namespace LB
open PySem PySem.Spec PyProof.Rows L2
/-- a leap year -/
def leapP (y : Int) : Prop := y % 4 = 0 ∧ (y % 100 ≠ 0 ∨ y % 400 = 0)
instance (y : Int) : Decidable (leapP y) := inferInstanceAs (Decidable (_ ∧ _))
def leapB (y : Int) : Bool := decide (leapP y)
def leapN (y : Int) : Int := if leapP y then 1 else 0
/-- the first day of a year -/
def ystart (y : Int) : Int := 365 * (y - 2000) + (y - 2000 + 3) / 4 - (y - 2000 + 99) / 100 + (y - 2000 + 399) / 400
theorem leapN_b (y : Int) : (if leapB y = true then (1 : Int) else 0) = leapN y := by
  unfold leapB leapN
  by_cases h : leapP y
  · rw [if_pos h, if_pos (decide_eq_true h)]
  · rw [if_neg h, if_neg (by rw [decide_eq_false h]; decide)]
theorem leapN_01 (y : Int) : leapN y = 0 ∨ leapN y = 1 := by unfold leapN; split <;> simp
theorem ystart_next (y : Int) : ystart (y + 1) = ystart y + 365 + leapN y := by
  unfold ystart leapN
  by_cases h : leapP y
  · rw [if_pos h]
    unfold leapP at h
    omega
  · rw [if_neg h]
    unfold leapP at h
    omega
theorem ystart_0 : ystart 2000 = 0 := by decide
theorem ystart_end : ystart 2200 = 73049 := by decide
theorem ystart_low (k : Int) (h : 0 ≤ k) : ystart (2000 + k) ≤ 366 * k := by
  unfold ystart
  omega
theorem ystart_lt {y z : Int} (h : y < z) : ystart y + 365 ≤ ystart z := by
  unfold ystart
  omega
theorem ystart_mono {y z : Int} (h : y ≤ z) : ystart y ≤ ystart z := by
  unfold ystart
  omega
/-- the days of a month -/
def mlen (y m : Int) : Int := if m = 2 then 28 + leapN y else if m = 4 ∨ m = 6 ∨ m = 9 ∨ m = 11 then 30 else 31
/-- the days of the year before a month -/
def mstart (y m : Int) : Int :=
  if m ≤ 1 then 0 else if m = 2 then 31 else leapN y + (if m = 3 then 59 else if m = 4 then 90 else if m = 5 then 120 else if m = 6 then 151 else if m = 7 then 181 else if m = 8 then 212 else if m = 9 then 243 else if m = 10 then 273 else if m = 11 then 304 else if m = 12 then 334 else 365)
theorem mstart_next (y m : Int) (h1 : 1 ≤ m) (h2 : m ≤ 12) : mstart y (m + 1) = mstart y m + mlen y m := by
  unfold mstart mlen
  rcases (by omega : m = 1 ∨ m = 2 ∨ m = 3 ∨ m = 4 ∨ m = 5 ∨ m = 6 ∨ m = 7 ∨ m = 8 ∨ m = 9 ∨ m = 10 ∨ m = 11 ∨ m = 12) with rfl | rfl | rfl | rfl | rfl | rfl | rfl | rfl | rfl | rfl | rfl | rfl <;> simp <;> omega
theorem mstart_1 (y : Int) : mstart y 1 = 0 := by unfold mstart; simp
theorem mstart_13 (y : Int) : mstart y 13 = 365 + leapN y := by unfold mstart; simp; omega
theorem mlen_pos (y m : Int) : 28 ≤ mlen y m ∧ mlen y m ≤ 31 := by
  have := leapN_01 y
  unfold mlen
  split
  · omega
  · split <;> omega
/-- the day of that date -/
def dayOf (y m d : Int) : Int := ystart y + mstart y m + d - 1
/-- (y, m, d) is a date -/
structure IsDate (y m d : Int) : Prop where
  y0 : 2000 ≤ y
  y1 : y ≤ 2199
  m0 : 1 ≤ m
  m1 : m ≤ 12
  d0 : 1 ≤ d
  d1 : d ≤ mlen y m
theorem mstart_mono (y : Int) {m n : Int} (h0 : 1 ≤ m) (h : m < n) (h1 : n ≤ 13) : mstart y m + mlen y m ≤ mstart y n := by
  have key : ∀ k : Nat, m + 1 + k ≤ 13 → mstart y (m + 1) ≤ mstart y (m + 1 + k) := by
    intro k
    induction k with
    | zero => intro _; simp
    | succ k ih =>
      intro hk
      have := ih (by omega)
      have e := mstart_next y (m + 1 + k) (by omega) (by omega)
      have := mlen_pos y (m + 1 + k)
      rw [show m + 1 + ((k + 1 : Nat) : Int) = m + 1 + k + 1 by omega, e]
      omega
  have := key (n - (m + 1)).toNat (by omega)
  rw [mstart_next y m h0 (by omega)] at this
  rw [show m + 1 + ((n - (m + 1)).toNat : Int) = n by omega] at this
  exact this
theorem date_in_year {y m d : Int} (h : IsDate y m d) : ystart y ≤ dayOf y m d ∧ dayOf y m d < ystart (y + 1) := by
  have h1 := mstart_mono y h.m0 (n := 13) (by have := h.m1; omega) (by omega)
  rw [mstart_13] at h1
  have h2 := ystart_next y
  have h3 : 0 ≤ mstart y m := by
    by_cases e : m = 1
    · rw [e, mstart_1]; omega
    · have := mstart_mono y (m := 1) (n := m) (by omega) (by have := h.m0; omega) (by have := h.m1; omega)
      rw [mstart_1] at this
      have := mlen_pos y 1
      omega
  have := h.d0
  have := h.d1
  unfold dayOf
  omega
theorem date_range {y m d : Int} (h : IsDate y m d) : 0 ≤ dayOf y m d ∧ dayOf y m d ≤ 73048 := by
  have h1 := date_in_year h
  have h2 := ystart_mono h.y0
  have h3 := ystart_mono (y := y + 1) (z := 2200) (by have := h.y1; omega)
  rw [ystart_0] at h2
  rw [ystart_end] at h3
  omega
theorem date_inj {y m d y' m' d' : Int} (h : IsDate y m d) (h' : IsDate y' m' d') (e : dayOf y m d = dayOf y' m' d') : y = y' ∧ m = m' ∧ d = d' := by
  have a := date_in_year h
  have b := date_in_year h'
  have ey : y = y' := by
    rcases Int.lt_trichotomy y y' with l | l | l
    · have := ystart_mono (y := y + 1) (z := y') (by omega)
      omega
    · exact l
    · have := ystart_mono (y := y' + 1) (z := y) (by omega)
      omega
  subst ey
  have em : m = m' := by
    unfold dayOf at e
    have := h.d0; have := h.d1; have := h'.d0; have := h'.d1
    rcases Int.lt_trichotomy m m' with l | l | l
    · have := mstart_mono y h.m0 l (by have := h'.m1; omega)
      omega
    · exact l
    · have := mstart_mono y h'.m0 l (by have := h.m1; omega)
      omega
  subst em
  unfold dayOf at e
  exact ⟨rfl, rfl, by omega⟩
theorem mtab (y m : Int) (h1 : 1 ≤ m) (h2 : m ≤ 12) (h : m ≠ 2) : atI [V.int 31, V.int 28, V.int 31, V.int 30, V.int 31, V.int 30, V.int 31, V.int 31, V.int 30, V.int 31, V.int 30, V.int 31] (m - 1) = some (V.int (mlen y m)) := by
  rcases (by omega : m = 1 ∨ m = 3 ∨ m = 4 ∨ m = 5 ∨ m = 6 ∨ m = 7 ∨ m = 8 ∨ m = 9 ∨ m = 10 ∨ m = 11 ∨ m = 12) with rfl | rfl | rfl | rfl | rfl | rfl | rfl | rfl | rfl | rfl | rfl <;> rfl
theorem mlen_2 (y : Int) : (28 : Int) + (if leapB y = true then (1 : Int) else 0) = mlen y 2 := by rw [leapN_b]; rfl
theorem mlen_2' (y : Int) : (if leapB y = true then (29 : Int) else 28) = mlen y 2 := by
  rw [← mlen_2]
  split <;> rfl
theorem mlen_in {y m : Int} (h : inV (V.int m) [V.int 4, V.int 6, V.int 9, V.int 11] = true) : mlen y m = 30 := by
  have e : m = 4 ∨ m = 6 ∨ m = 9 ∨ m = 11 := by
    simp only [inV, eqV, List.any, Bool.or_false, Bool.or_eq_true, beq_iff_eq] at h
    omega
  unfold mlen
  rw [if_neg (by omega), if_pos e]
theorem mlen_out {y m : Int} (h : inV (V.int m) [V.int 4, V.int 6, V.int 9, V.int 11] = false) (h2 : m ≠ 2) : mlen y m = 31 := by
  have e : ¬ (m = 4 ∨ m = 6 ∨ m = 9 ∨ m = 11) := by
    simp only [inV, eqV, List.any, Bool.or_false, Bool.or_eq_false_iff, beq_eq_false_iff_ne] at h
    omega
  unfold mlen
  rw [if_neg h2, if_neg e]
/-! ### every day has a date -/
theorem year_ex {d : Int} (h0 : 0 ≤ d) : ∀ k : Nat, d < ystart (2000 + (k : Int)) → ∃ y, 2000 ≤ y ∧ y < 2000 + (k : Int) ∧ ystart y ≤ d ∧ d < ystart (y + 1)
  | 0, h => by
    rw [show (2000 : Int) + ((0 : Nat) : Int) = 2000 from rfl, ystart_0] at h
    omega
  | k + 1, h => by
    by_cases c : d < ystart (2000 + (k : Int))
    · obtain ⟨y, h1, h2, h3, h4⟩ := year_ex h0 k c
      exact ⟨y, h1, by omega, h3, h4⟩
    · exact ⟨2000 + (k : Int), by omega, by omega, by omega, by rw [show (2000 : Int) + ((k + 1 : Nat) : Int) = 2000 + (k : Int) + 1 by omega] at h; exact h⟩
theorem month_ex (y : Int) {r : Int} (h0 : 0 ≤ r) : ∀ k : Nat, k ≤ 12 → r < mstart y (1 + (k : Int)) → ∃ m, 1 ≤ m ∧ m < 1 + (k : Int) ∧ mstart y m ≤ r ∧ r < mstart y m + mlen y m
  | 0, _, h => by
    rw [show (1 : Int) + ((0 : Nat) : Int) = 1 from rfl, mstart_1] at h
    omega
  | k + 1, hk, h => by
    by_cases c : r < mstart y (1 + (k : Int))
    · obtain ⟨m, h1, h2, h3, h4⟩ := month_ex y h0 k (by omega) c
      exact ⟨m, h1, by omega, h3, h4⟩
    · refine ⟨1 + (k : Int), by omega, by omega, by omega, ?_⟩
      rw [← mstart_next y (1 + (k : Int)) (by omega) (by omega), show (1 : Int) + (k : Int) + 1 = 1 + ((k + 1 : Nat) : Int) by omega]
      exact h
theorem date_ex {d : Int} (h0 : 0 ≤ d) (h1 : d ≤ 73048) : ∃ y m x, IsDate y m x ∧ dayOf y m x = d := by
  obtain ⟨y, a1, a2, a3, a4⟩ := year_ex h0 200 (by rw [show (2000 : Int) + ((200 : Nat) : Int) = 2200 from rfl, ystart_end]; omega)
  have e := ystart_next y
  have e13 := mstart_13 y
  obtain ⟨m, b1, b2, b3, b4⟩ := month_ex y (r := d - ystart y) (by omega) 12 (by decide) (by rw [show (1 : Int) + ((12 : Nat) : Int) = 13 from rfl]; omega)
  exact ⟨y, m, d - ystart y - mstart y m + 1, ⟨a1, by omega, b1, by omega, by omega, by omega⟩, by unfold dayOf; omega⟩
theorem date_lt {y m d y' m' d' : Int} (h : IsDate y m d) (h' : IsDate y' m' d') (e : 12 * y + m < 12 * y' + m') : dayOf y m d < dayOf y' m' d' := by
  have a := date_in_year h
  have b := date_in_year h'
  have := h.m0; have := h.m1; have := h'.m0; have := h'.m1
  by_cases c : y < y'
  · have := ystart_mono (y := y + 1) (z := y') (by omega)
    omega
  · have ey : y = y' := by omega
    subst ey
    have l := mstart_mono y (m := m) (n := m') (by omega) (by omega) (by omega)
    have := h.d1
    have := h'.d0
    unfold dayOf
    omega
end LB

set_option Elab.async false
set_option linter.all false
set_option maxRecDepth 100000
set_option maxHeartbeats 4000000
/-! day counts: the plain side -/
namespace LB
open PySem PySem.Spec PyProof.Rows L2
def partsOf (z : Str) : Option Int := if z = "actual/365" then some 365 else if z = "actual/360" then some 360 else if z = "30/360" then some 360 else if z = "actual/actual" then some 133590 else none
/-- a day's place on the scale of a convention -/
def posOf (z : Str) (y m x : Int) : Int := if z = "actual/365" ∨ z = "actual/360" then dayOf y m x else if z = "30/360" then 360 * (y - 2000) + 30 * (m - 1) + (if 30 < x then 30 else x) - 1 else 133590 * (y - 2000) + (dayOf y m x - ystart y) * (if leapB y = true then 365 else 366)
theorem in_two {x a b : Str} : inV (.str x) [.str a, .str b] = true ↔ x = a ∨ x = b := by
  show ((a == x) || ((b == x) || false)) = true ↔ _
  rw [Bool.or_false, Bool.or_eq_true, beq_iff_eq, beq_iff_eq]
  exact ⟨fun h => h.elim (fun e => .inl e.symm) fun e => .inr e.symm, fun h => h.elim (fun e => .inl e.symm) fun e => .inr e.symm⟩
theorem posOf_act {z : Str} (h : z = "actual/365" ∨ z = "actual/360") (y m x : Int) : posOf z y m x = dayOf y m x := by
  unfold posOf
  rw [if_pos h]
theorem posOf_30 {z : Str} (h : ¬ (z = "actual/365" ∨ z = "actual/360")) (h2 : z = "30/360") (y m x : Int) : posOf z y m x = 360 * (y - 2000) + 30 * (m - 1) + (if 30 < x then 30 else x) - 1 := by
  unfold posOf
  rw [if_neg h, if_pos h2]
theorem posOf_aa {z : Str} (h : ¬ (z = "actual/365" ∨ z = "actual/360")) (h2 : ¬ z = "30/360") (y m x : Int) : posOf z y m x = 133590 * (y - 2000) + (dayOf y m x - ystart y) * (if leapB y = true then 365 else 366) := by
  unfold posOf
  rw [if_neg h, if_neg h2]
theorem date_ex3 {d : Int} (h0 : 0 ≤ d) (h1 : d ≤ 73048) : ∃ t : Int × Int × Int, IsDate t.1 t.2.1 t.2.2 ∧ dayOf t.1 t.2.1 t.2.2 = d := by
  obtain ⟨y, m, x, h⟩ := date_ex h0 h1
  exact ⟨(y, m, x), h⟩
noncomputable def dOf (d : Int) : Int × Int × Int := if h : 0 ≤ d ∧ d ≤ 73048 then Classical.choose (date_ex3 h.1 h.2) else (2000, 1, 1)
theorem dOf_is {d : Int} (h0 : 0 ≤ d) (h1 : d ≤ 73048) : IsDate (dOf d).1 (dOf d).2.1 (dOf d).2.2 ∧ dayOf (dOf d).1 (dOf d).2.1 (dOf d).2.2 = d := by
  unfold dOf
  rw [dif_pos ⟨h0, h1⟩]
  exact Classical.choose_spec (date_ex3 h0 h1)
noncomputable def posD (z : Str) (d : Int) : Int := posOf z (dOf d).1 (dOf d).2.1 (dOf d).2.2
theorem posD_is {z : Str} {y m x d : Int} (hI : IsDate y m x) (hD : dayOf y m x = d) : posOf z y m x = posD z d := by
  have r := date_range hI
  rw [hD] at r
  have k := dOf_is r.1 r.2
  obtain ⟨e1, e2, e3⟩ := date_inj hI k.1 (hD.trans k.2.symm)
  unfold posD
  rw [← e1, ← e2, ← e3]
end LB

set_option Elab.async false
set_option linter.all false
set_option maxRecDepth 100000
set_option maxHeartbeats 4000000
/-! lists of tuples -/
namespace LB
open PySem PySem.Spec PyProof.Rows L2
/-- an object that may be written -/
def mutO : HO → Bool
  | .lst _ => true
  | .dK _ => true
  | .dT _ => true
  | .set _ _ => true
  | .ins _ _ _ => true
  | .own _ => true
  | .xd _ => true
  | _ => false
section
variable {K : PySem.W.Frag} {H H' : Hp} {a b D : Addr} {o o' : HO} {xs ys : List V}
theorem tup_put (e : H D = some o) (m : mutO o = true) (h : SqT K H a xs) : SqT K (upd H D o') a xs := by
  rcases h with (h | ⟨u, h⟩) | h
  · refine .inl (.inl ?_)
    rw [upd_ne (ne_of h e (by intro z; cases z; cases m))]
    exact h
  · refine .inl (.inr ⟨u, ?_⟩)
    rw [upd_ne (ne_of h e (by intro z; cases z; cases m))]
    exact h
  · exact .inr h
theorem tup_uniq (h1 : H a = some (.tup xs)) (h2 : H a = some (.tup ys)) : xs = ys := by
  rw [h1] at h2
  cases h2
  rfl
/-- vs are the addresses of the tuples rows -/
structure Tups (K : PySem.W.Frag) (H : Hp) (vs : List V) (rows : List (List V)) : Prop where
  len : vs.length = rows.length
  at_ : ∀ (i : Nat) (r : List V), rows[i]? = some r → ∃ a : Addr, vs[i]? = some (V.ref a) ∧ SqT K H a r
theorem Tups.nil : Tups K H [] [] := ⟨rfl, fun i r h => by simp at h⟩
theorem Tups.mono {vs : List V} {rows : List (List V)} (h : Tups K H vs rows) (f : ∀ a r, SqT K H a r → SqT K H' a r) : Tups K H' vs rows := ⟨h.len, fun i r e => by
  obtain ⟨a, h1, h2⟩ := h.at_ i r e
  exact ⟨a, h1, f a r h2⟩⟩
theorem Tups.same {vs : List V} {rows : List (List V)} (e : Same H H') (h : Tups K H vs rows) : Tups K H' vs rows := h.mono fun _ _ => same_tup e
theorem Tups.upd {vs : List V} {rows : List (List V)} (e : H D = none) (h : Tups K H vs rows) : Tups K (upd H D o) vs rows := h.mono fun _ _ => tup_upd e
theorem Tups.put {vs : List V} {rows : List (List V)} (e : H D = some o) (m : mutO o = true) (h : Tups K H vs rows) : Tups K (L2.upd H D o') vs rows := h.mono fun _ _ => tup_put e m
theorem Tups.snoc {vs : List V} {rows : List (List V)} {r : List V} (h : Tups K H vs rows) (t : SqT K H a r) : Tups K H (vs ++ [.ref a]) (rows ++ [r]) := by
  refine ⟨by simp [h.len], fun i z e => ?_⟩
  by_cases c : i < rows.length
  · rw [List.getElem?_append_left c] at e
    obtain ⟨b, h1, h2⟩ := h.at_ i z e
    exact ⟨b, by rw [List.getElem?_append_left (by rw [h.len]; exact c)]; exact h1, h2⟩
  · rw [List.getElem?_append_right (by omega)] at e
    have ei : i - rows.length = 0 := by
      by_cases z0 : i - rows.length = 0
      · exact z0
      · rw [List.getElem?_eq_none (by simp; omega)] at e
        cases e
    rw [ei] at e
    cases e
    refine ⟨a, ?_, t⟩
    rw [List.getElem?_append_right (by rw [h.len]; omega), h.len, ei]
    rfl
theorem Tups.append {vs us : List V} {rows more : List (List V)} (h : Tups K H vs rows) (g : Tups K H us more) : Tups K H (vs ++ us) (rows ++ more) := by
  refine ⟨by simp [h.len, g.len], fun i z e => ?_⟩
  by_cases c : i < rows.length
  · rw [List.getElem?_append_left c] at e
    obtain ⟨b, h1, h2⟩ := h.at_ i z e
    exact ⟨b, by rw [List.getElem?_append_left (by rw [h.len]; exact c)]; exact h1, h2⟩
  · rw [List.getElem?_append_right (by omega)] at e
    obtain ⟨b, h1, h2⟩ := g.at_ _ z e
    exact ⟨b, by rw [List.getElem?_append_right (by rw [h.len]; omega), h.len]; exact h1, h2⟩
theorem Tups.take {vs : List V} {rows : List (List V)} (h : Tups K H vs rows) (n : Nat) : Tups K H (vs.take n) (rows.take n) := by
  refine ⟨by simp [h.len], fun i z e => ?_⟩
  rw [List.getElem?_take] at e
  split at e
  · rename_i c
    obtain ⟨b, h1, h2⟩ := h.at_ i z e
    exact ⟨b, by rw [List.getElem?_take, if_pos c]; exact h1, h2⟩
  · cases e
theorem Tups.drop {vs : List V} {rows : List (List V)} (h : Tups K H vs rows) (n : Nat) : Tups K H (vs.drop n) (rows.drop n) := by
  refine ⟨by simp [h.len], fun i z e => ?_⟩
  rw [List.getElem?_drop] at e
  obtain ⟨b, h1, h2⟩ := h.at_ _ z e
  exact ⟨b, by rw [List.getElem?_drop]; exact h1, h2⟩
theorem Tups.cons {vs : List V} {rows : List (List V)} {r : List V} (t : SqT K H a r) (h : Tups K H vs rows) : Tups K H (.ref a :: vs) (r :: rows) := by
  refine ⟨by simp [h.len], fun i z e => ?_⟩
  cases i with
  | zero =>
    cases e
    exact ⟨a, rfl, t⟩
  | succ j => exact h.at_ j z e
theorem Tups.of_cons {vs : List V} {rows : List (List V)} {r : List V} (h : Tups K H vs (r :: rows)) : ∃ (a : Addr) (us : List V), vs = V.ref a :: us ∧ SqT K H a r ∧ Tups K H us rows := by
  obtain ⟨a, h1, h2⟩ := h.at_ 0 r rfl
  cases vs with
  | nil => cases h1
  | cons v us =>
    cases h1
    exact ⟨a, us, rfl, h2, by have := h.len; simpa using this, fun i z e => h.at_ (i + 1) z e⟩
theorem Tups.dp : ∀ {rows : List (List V)} {vs : List V}, Tups K H vs rows → (∀ r ∈ rows, r.all flatS = true) → DpAll K H vs (rows.map fun r => .tuple (r.map pd))
  | [], vs, h, _ => by
    have := h.len
    cases vs with
    | nil => exact .nil
    | cons v us => simp at this
  | r :: rows, vs, h, f => by
    obtain ⟨a, us, rfl, t, g⟩ := h.of_cons
    exact .cons (.tup t (dpAll_pd (f r (List.mem_cons_self ..)))) (Tups.dp g fun z hz => f z (List.mem_cons_of_mem _ hz))
end
def eqLL : List (List V) → List (List V) → Bool
  | [], [] => true
  | x :: xs, y :: ys => eqL x y && eqLL xs ys
  | _, _ => false
theorem layRows : ∀ {rows : List (List V)}, (∀ r ∈ rows, r.all flatS = true) → PyData.canLayAll0 (rows.map fun r => PyData.tuple (r.map pd)) = true ∧ PyData.depthAll (rows.map fun r => PyData.tuple (r.map pd)) ≤ 1
  | [], _ => ⟨by simp only [List.map, PyData.canLayAll0], by simp only [List.map, PyData.depthAll]; omega⟩
  | r :: rows, f => by
    have a := layAll_pd (f r (List.mem_cons_self ..))
    have b := layRows fun z hz => f z (List.mem_cons_of_mem r hz)
    simp only [List.map, PyData.canLayAll0, PyData.depthAll, PyData.canLay0, PyData.depth, a.1, a.2, b.1]
    refine ⟨rfl, ?_⟩
    have := b.2
    omega
theorem shapedRows {rows : List (List V)} (f : ∀ r ∈ rows, r.all flatS = true) : SeqAt.shaped (.list (rows.map fun r => PyData.tuple (r.map pd))) = true := by
  have a := layRows f
  unfold SeqAt.shaped
  simp only [PyData.canLay0, PyData.depth, a.1, Bool.true_and]
  exact decide_eq_true (by have := a.2; omega)
theorem eqvRows : ∀ {xs ys : List (List V)}, (∀ r ∈ xs, r.all flatS = true) → (∀ r ∈ ys, r.all flatS = true) → PyData.eqvAll (xs.map fun r => PyData.tuple (r.map pd)) (ys.map fun r => PyData.tuple (r.map pd)) = eqLL xs ys
  | [], [], _, _ => by simp only [List.map, PyData.eqvAll, eqLL]
  | [], _ :: _, _, _ => by simp only [List.map, PyData.eqvAll, eqLL]
  | _ :: _, [], _, _ => by simp only [List.map, PyData.eqvAll, eqLL]
  | x :: xs, y :: ys, h, k => by
    simp only [List.map, PyData.eqvAll, PyData.eqv, eqLL, eqvAll_pd (h x (List.mem_cons_self ..)) (k y (List.mem_cons_self ..)), eqvRows (fun z hz => h z (List.mem_cons_of_mem _ hz)) (fun z hz => k z (List.mem_cons_of_mem _ hz))]
/-- == of ints, texts, and None alone is equality -/
def sharpV : V → Bool
  | .int _ => true
  | .str _ => true
  | .non => true
  | _ => false
theorem eqV_iff {x y : V} (hx : sharpV x = true) (hy : sharpV y = true) : eqV x y = decide (x = y) := by
  cases x <;> first | cases hx | skip
  all_goals cases y <;> first | cases hy | skip
  all_goals first | (rw [Bool.eq_iff_iff]; simp [eqV]) | simp [eqV]
theorem eqL_iff : ∀ {xs ys : List V}, xs.all sharpV = true → ys.all sharpV = true → eqL xs ys = decide (xs = ys)
  | [], [], _, _ => by simp [eqL]
  | [], _ :: _, _, _ => by simp [eqL]
  | _ :: _, [], _, _ => by simp [eqL]
  | x :: xs, y :: ys, h, k => by
    have h2 := Bool.and_eq_true_iff.mp (List.all_cons .. ▸ h)
    have k2 := Bool.and_eq_true_iff.mp (List.all_cons .. ▸ k)
    rw [eqL, eqV_iff h2.1 k2.1, eqL_iff h2.2 k2.2]
    by_cases c1 : x = y <;> by_cases c2 : xs = ys <;> simp [c1, c2]
theorem eqLL_iff : ∀ {xs ys : List (List V)}, (∀ r ∈ xs, r.all sharpV = true) → (∀ r ∈ ys, r.all sharpV = true) → eqLL xs ys = decide (xs = ys)
  | [], [], _, _ => by simp [eqLL]
  | [], _ :: _, _, _ => by simp [eqLL]
  | _ :: _, [], _, _ => by simp [eqLL]
  | x :: xs, y :: ys, h, k => by
    rw [eqLL, eqL_iff (h x (List.mem_cons_self ..)) (k y (List.mem_cons_self ..)), eqLL_iff (fun z hz => h z (List.mem_cons_of_mem _ hz)) (fun z hz => k z (List.mem_cons_of_mem _ hz))]
    by_cases c1 : x = y <;> by_cases c2 : xs = ys <;> simp [c1, c2]
theorem eqLL_self : ∀ {xs : List (List V)}, (∀ r ∈ xs, r.all flatS = true) → eqLL xs xs = true
  | [], _ => rfl
  | x :: xs, h => by rw [eqLL, eqL_self (h x (List.mem_cons_self ..)), eqLL_self (fun z hz => h z (List.mem_cons_of_mem _ hz))]; rfl
section
variable {K : PySem.W.Frag} {H : Hp} {a b : Addr} {vs us : List V} {xs ys : List (List V)} {Q : VK}
theorem eqD_R (h1 : SqL K H a vs) (t1 : Tups K H vs xs) (h2 : SqL K H b us) (t2 : Tups K H us ys) (f1 : ∀ r ∈ xs, r.all flatS = true) (f2 : ∀ r ∈ ys, r.all flatS = true) (q : Q (.bl (eqLL xs ys)) H) : rEqD K (.ref a) (.ref b) H Q := by
  refine ⟨_, _, .lst h1 (t1.dp f1), .lst h2 (t2.dp f2), shapedRows f1, shapedRows f2, ?_⟩
  simp only [PyData.eqv, eqvRows f1 f2]
  exact q
theorem neD_R (h1 : SqL K H a vs) (t1 : Tups K H vs xs) (h2 : SqL K H b us) (t2 : Tups K H us ys) (f1 : ∀ r ∈ xs, r.all flatS = true) (f2 : ∀ r ∈ ys, r.all flatS = true) (q : Q (.bl (!eqLL xs ys)) H) : rNeD K (.ref a) (.ref b) H Q := by
  refine ⟨_, _, .lst h1 (t1.dp f1), .lst h2 (t2.dp f2), shapedRows f1, shapedRows f2, ?_⟩
  simp only [PyData.eqv, eqvRows f1 f2]
  exact q
end
/-! ### rows of ints -/
/-- a tuple of ints -/
def irow (r : List Int) : List V := r.map V.int
theorem irow_flat (r : List Int) : (irow r).all flatS = true := flatI
theorem irow_sharp (r : List Int) : (irow r).all sharpV = true := by
  unfold irow
  rw [List.all_map]
  exact List.all_eq_true.mpr fun _ _ => rfl
theorem irow_inj {r s : List Int} (h : irow r = irow s) : r = s := by
  unfold irow at h
  exact (List.map_inj_right (fun x y e => V.int.inj e)).mp h
theorem irows_flat {rs : List (List Int)} : ∀ r ∈ rs.map irow, r.all flatS = true := by
  intro r h
  obtain ⟨z, _, rfl⟩ := List.mem_map.mp h
  exact irow_flat z
theorem irows_sharp {rs : List (List Int)} : ∀ r ∈ rs.map irow, r.all sharpV = true := by
  intro r h
  obtain ⟨z, _, rfl⟩ := List.mem_map.mp h
  exact irow_sharp z
theorem irows_inj {r s : List (List Int)} (h : r.map irow = s.map irow) : r = s := (List.map_inj_right (fun x y e => irow_inj e)).mp h
theorem eqLL_i {xs ys : List (List Int)} : eqLL (xs.map irow) (ys.map irow) = decide (xs = ys) := by
  rw [eqLL_iff irows_sharp irows_sharp]
  by_cases c : xs = ys
  · rw [decide_eq_true c, decide_eq_true (by rw [c])]
  · rw [decide_eq_false c, decide_eq_false fun z => c (irows_inj z)]
/-! ### cut lists -/
theorem cutV_lo {xs : List V} {k : Nat} (h : k ≤ xs.length) : cutV xs none (some (k : Int)) = xs.take k := by
  unfold cutV
  have e1 : HT.sIx xs.length 0 none = 0 := rfl
  have e2 : HT.sIx xs.length xs.length (some (k : Int)) = k := by
    simp only [HT.sIx]
    split <;> omega
  rw [e1, e2, List.drop_zero, Nat.sub_zero]
theorem cutV_hi {xs : List V} {k : Nat} (h : k ≤ xs.length) : cutV xs (some (k : Int)) none = xs.drop k := by
  unfold cutV
  have e1 : HT.sIx xs.length 0 (some (k : Int)) = k := by
    simp only [HT.sIx]
    split <;> omega
  have e2 : HT.sIx xs.length xs.length none = xs.length := rfl
  rw [e1, e2, List.take_of_length_le (by simp)]
section
variable {K : PySem.W.Frag} {H : Hp} {a p t : Addr} {us : List V} {rows : List (List V)} {r : List V}
theorem Tups.set (h : Tups K H us rows) (t : SqT K H a r) (k : Nat) : Tups K H (us.set k (.ref a)) (rows.set k r) := by
  refine ⟨by simp [h.len], fun i z e => ?_⟩
  rw [List.getElem?_set] at e ⊢
  by_cases c : k = i
  · rw [if_pos c] at e ⊢
    split at e
    · rename_i c2
      rw [if_pos (by rw [h.len]; exact c2)]
      cases e
      exact ⟨a, rfl, t⟩
    · cases e
  · rw [if_neg c] at e ⊢
    exact h.at_ i z e
theorem app_tups {o : List V} (hp : H p = some (.lst o)) (nt : H t = none) (h : Tups K H us rows) {o' : HO} : Tups K (L2.upd (L2.upd H t (.tup r)) p o') (us ++ [.ref t]) (rows ++ [r]) := ((h.upd nt).snoc (t_of upd_same)).put (hp_upd nt hp) rfl
theorem atI_neg1 {xs : List V} {k : Nat} {v : V} (h : xs.length = k + 1) (e : xs[k]? = some v) : atI xs (-1) = some v := by
  unfold atI
  have e1 : ixN xs.length (-1) = some k := by
    unfold ixN
    rw [if_neg (by decide), if_pos (by omega)]
    congr 1
    omega
  rw [e1]
  exact e
theorem ixN_neg1 {n k : Nat} (h : n = k + 1) : ixN n (-1) = some k := by
  unfold ixN
  rw [if_neg (by decide), if_pos (by omega)]
  congr 1
  omega
theorem ixN_nat {n k : Nat} {i : Int} (e : i = k) (h : k < n) : ixN n i = some k := by
  subst e
  unfold ixN
  rw [if_pos (by omega), if_pos (by omega)]
  simp
/-- the tuple at place i -/
theorem Tups.get (h : Tups K H us rows) {i : Nat} (e : rows[i]? = some r) : ∃ a : Addr, atI us (i : Int) = some (V.ref a) ∧ SqT K H a r := by
  obtain ⟨a, h1, h2⟩ := h.at_ i r e
  exact ⟨a, atI_nat h1, h2⟩
theorem Tups.last (h : Tups K H us (rows ++ [r])) : ∃ a : Addr, atI us (-1) = some (V.ref a) ∧ SqT K H a r := by
  obtain ⟨a, h1, h2⟩ := h.at_ rows.length r (by simp)
  exact ⟨a, atI_neg1 (k := rows.length) (by rw [h.len]; simp) h1, h2⟩
end
end LB

set_option Elab.async false
set_option linter.all false
set_option maxRecDepth 100000
set_option maxHeartbeats 4000000
/-! objects of own classes: calls of methods and of classes that may raise, also within a try -/
namespace LB
open PySem PySem.Spec PyProof.Rows L2
section
variable {X : Cx} {CX : CXT} {k : Nat} {C f : Addr} {fd : FuncData} {ps : List Str} {sp : Sp} {E : L2.St → XK} {m x : Str} {o e : Expr} {es : List Expr} {ta : TE} {t : TA} {p pos apos : Pos}
/-- o.m(e, ..): the receiver stands ahead of the arguments -/
def tMethS (C : Addr) (m : Str) (sp : Sp) (E : L2.St → XK) (ta : TE) (t : TA) : TE := fun σ H Q => ta σ H fun y H1 => ∃ a dx fs,
  y = .ref a ∧ H1 a = some (.ins C dx fs) ∧ fs.lookup m = none ∧ t σ H1 fun vs H2 => sp (.ref a :: vs) H2 Q (E σ)
theorem pe_methX {pl : Sem Bool} (F : FnOk X.prog X.w X.K X.mg X.base CX k f fd ps sp) (hr : Room k X.A)
    (c : Cls X.K C) (hm : Meth X.K C m f) (hb : Binds X.K fd ps []) (hx : ∀ σ, PassesAt CX X σ (E σ)) (he : PE X o ta) (ha : PA X (e :: es) t)
    (hst : starEach (e :: es) X.env = (false, eval e X.env) :: starEach es X.env := by rfl)
    (hpl : (backTo pos (starEach es X.env)).any (·.1) = false := by rfl)
    (ht : eval (.Call (.Attribute o m apos) (e :: es) [] pos) X.env = (eval o X.env >>= fun ov => standAt apos.atName >>= fun _ =>
      holding [ov] (getMethod ov m pl) >>= fun r => callWith pos r.1 r.2 (backTo pos (starEach (e :: es) X.env)) (backToKw pos (keywordEach [] X.env))) := by rfl) :
    PE X (.Call (.Attribute o m apos) (e :: es) [] pos) (tMethS C m sp E ta t) := by
  constructor
  intro pins s σ H Q I h
  refine PySem.W.methodCall_KW (pl := pl) ?_ ht
  refine thn (he.run pins s σ H _ I h) ?_
  rintro u s1 ⟨y, H1, I1, ry, a, dx, fs, rfl, ea, l, q⟩
  cases (show u = Value.ref a from ry)
  refine getmeth_ok I1 ea c hm l (PySem.W.callWith_K (first := [.ref a]) (h₀ := X.base) I.ok.mod.kin hm.kp ?_ hst hpl)
  refine thn (ha.run pos pins s1 σ H1 _ I1 q) ?_
  rintro us s2 ⟨vs, H2, I2, rv, q2⟩
  exact ⟨I2.kIn, run_fnS (us := .ref a :: us) (vs := .ref a :: vs) F hr hb (hx σ) I2 (.cons rfl rv) q2⟩
theorem pe_methX0 {pl : Sem Bool} (F : FnOk X.prog X.w X.K X.mg X.base CX k f fd ps sp) (hr : Room k X.A)
    (c : Cls X.K C) (hm : Meth X.K C m f) (hb : Binds X.K fd ps []) (hx : ∀ σ, PassesAt CX X σ (E σ)) (he : PE X o ta)
    (ht : eval (.Call (.Attribute o m apos) [] [] pos) X.env = (eval o X.env >>= fun ov => standAt apos.atName >>= fun _ =>
      holding [ov] (getMethod ov m pl) >>= fun r => callWith pos r.1 r.2 (backTo pos (starEach [] X.env)) (backToKw pos (keywordEach [] X.env))) := by rfl) :
    PE X (.Call (.Attribute o m apos) [] [] pos) (tMethS C m sp E ta tNil) := by
  constructor
  intro pins s σ H Q I h
  refine PySem.W.methodCall_KW (pl := pl) ?_ ht
  refine thn (he.run pins s σ H _ I h) ?_
  rintro u s1 ⟨y, H1, I1, ry, a, dx, fs, rfl, ea, l, q⟩
  cases (show u = Value.ref a from ry)
  exact getmeth_ok I1 ea c hm l (PySem.W.callWith_K0 (first := [.ref a]) I1.kIn hm.kp (run_fnS (us := [.ref a]) (vs := [.ref a]) F hr hb (hx σ) I1 (.cons rfl .nil) q))
/-- C(e, ..): a new instance goes through __init__ -/
def tMakeS (C : Addr) (sp : Sp) (E : L2.St → XK) (t : TA) : TE := fun σ H Q => t σ H fun vs H1 => ∀ y dy, H1 y = none → H1 dy = none → dy ≠ y →
  sp (.ref y :: vs) (upd (upd H1 dy (.own y)) y (.ins C dy [])) (fun v H2 => v = .non ∧ Q (.ref y) H2) (E σ)
theorem make_runX {pins : List (Addr × Obj)} {s : Shared} {σ : L2.St} {H : Hp} {Q : VK} {us : List Value} {vs : List V} (M : Mk X.K C f) (F : FnOk X.prog X.w X.K X.mg X.base CX k f fd ps sp) (hr : Room (k + 1) X.A)
    (hb : Binds X.K fd ps []) (hx : PassesAt CX X σ (E σ)) (I : Inv X pins σ H s) (r : Vals vs us)
    (h : ∀ y dy, H y = none → H dy = none → dy ≠ y → sp (.ref y :: vs) (upd (upd H dy (.own y)) y (.ins C dy [])) (fun v H2 => v = .non ∧ Q (.ref y) H2) (E σ)) :
    wpAny (model X.prog X.w) X.A (call (.ref C) us) (EP X pins σ Q) X.xe s := by
  have J := Inv.made (C := C) I
  have g := h (s.heap.objs.size + 1) s.heap.objs.size (I.hok.fresh (Nat.le_succ _)) (I.hok.fresh (Nat.le_refl _)) (Nat.ne_of_lt (Nat.lt_succ_self s.heap.objs.size))
  have rr : Vals (V.ref (s.heap.objs.size + 1) :: vs) (Value.ref (s.heap.objs.size + 1) :: us) := Paired.cons (show RelV (V.ref (s.heap.objs.size + 1)) (Value.ref (s.heap.objs.size + 1)) from rfl) r
  have n : (Value.ref (s.heap.objs.size + 1) :: us).length = ps.length := (rr.length.symm).trans (F.len _ _ _ _ g)
  have run := F.run _ X.stack _ _ ⟨Value.ref (s.heap.objs.size + 1) :: us, []⟩ (Value.ref (s.heap.objs.size + 1) :: us) _ _ (E σ) (hr.make C us []) (J.env0.make C us [])
    (by have b := hb _ (Value.ref (s.heap.objs.size + 1) :: us) J.kIn (by simpa using n); simpa using b) rr g
  refine wpAny_call (make_map (f := f) I.kIn M.makes M.init (beq_iff_eq.mp M.fn) (codeAny_mono run ?_))
  rintro (e | fl) s' z
  · exact hx pins _ _ e s' J z
  · cases fl with
    | ret u =>
      obtain ⟨v, H', I3, rv, rfl, q3⟩ := J.after z
      exact ⟨rv, V.ref (s.heap.objs.size + 1), H', I3, rfl, q3⟩
    | next => exact z.elim
    | brk => exact z.elim
    | cont => exact z.elim
theorem pe_makeX (M : Mk X.K C f) (F : FnOk X.prog X.w X.K X.mg X.base CX k f fd ps sp) (hr : Room (k + 1) X.A) (hg : Gl X x) (hm : X.mg x = some (.ref C)) (hb : Binds X.K fd ps []) (hx : ∀ σ, PassesAt CX X σ (E σ))
    (ha : PA X (e :: es) t) (hdb : (x == ("__debug__" : Str)) = false := by decide)
    (he : starEach (e :: es) X.env = (false, eval e X.env) :: starEach es X.env := by rfl) (hpl : (backTo pos (starEach es X.env)).any (·.1) = false := by rfl) :
    PE X (.Call (.Name x p) (e :: es) [] pos) (tMakeS C sp E t) := by
  constructor
  intro pins s σ H Q I h
  refine wpAny_Call_Name_kw (ld_glob I hg hm ?_ hdb)
  refine PySem.W.callWith_K (h₀ := X.base) I.ok.mod.kin M.kp (thn (ha.run pos pins s σ H _ I h) ?_) he hpl
  rintro us s1 ⟨vs, H1, I1, r, q⟩
  exact ⟨I1.kIn, make_runX M F hr hb (hx σ) I1 r q⟩
end
/-! ### tuple(xs) -/
@[irreducible] def rTo (K : PySem.W.Frag) : List V → Hp → VK → Prop := fun vs H Q => ∃ p xs, vs = [.ref p] ∧ SqL K H p xs ∧ ∀ l, H l = none → Q (.ref l) (upd H l (.tup xs))
theorem call_to {X : Cx} : CallR X (.type "tuple") (rTo X.K) := fun pins s σ H xs us Q I r h => by
  unfold rTo at h
  obtain ⟨p, ys, rfl, hs, q⟩ := h
  exact call_tuple_of pins s σ H _ us Q I r ⟨p, ys, rfl, .inl ⟨hs, q⟩⟩
theorem to_go {K : PySem.W.Frag} {H : Hp} {p : Addr} {xs : List V} {Q : VK} (h : SqL K H p xs) (q : ∀ l, H l = none → Q (.ref l) (upd H l (.tup xs))) : rTo K [.ref p] H Q := by
  unfold rTo
  exact ⟨p, xs, rfl, h, q⟩
section
variable {X : Cx} {CX : CXT} {k : Nat} {C f : Addr} {fd : FuncData} {ps : List Str} {sp : Sp} {E : L2.St → XK} {x : Str} {p pos : Pos}
/-- C(): no arguments -/
theorem pe_makeX0 (M : Mk X.K C f) (F : FnOk X.prog X.w X.K X.mg X.base CX k f fd ps sp) (hr : Room (k + 1) X.A) (hg : Gl X x) (hm : X.mg x = some (.ref C)) (hb : Binds X.K fd ps []) (hx : ∀ σ, PassesAt CX X σ (E σ))
    (hdb : (x == ("__debug__" : Str)) = false := by decide) :
    PE X (.Call (.Name x p) [] [] pos) (tMakeS C sp E tNil) := by
  constructor
  intro pins s σ H Q I h
  refine wpAny_Call_Name_kw (ld_glob I hg hm ?_ hdb)
  exact PySem.W.callWith_K0 I.kIn M.kp (make_runX (us := []) (vs := []) M F hr hb (hx σ) I .nil h)
end
/-! ### fields -/
section
variable {K : PySem.W.Frag} {H : Hp} {a C dx : Addr} {fs : List (Str × V)} {f : Str} {v : V}
theorem fld_go {R : V → Prop} (e : H a = some (.ins C dx fs)) (c : Cls K C) (n : NoAttr K C f) (l : fs.lookup f = some v) (q : R v) : ∃ (a' C' dx' : Addr) (fs' : List (Str × V)) (v' : V), V.ref a = .ref a' ∧ H a' = some (.ins C' dx' fs') ∧ Cls K C' ∧ NoAttr K C' f ∧ fs'.lookup f = some v' ∧ R v' :=
  ⟨a, C, dx, fs, v, rfl, e, c, n, l, q⟩
theorem setf_go {R : Hp → Prop} (e : H a = some (.ins C dx fs)) (c : Cls K C) (n : NoAttr K C f) (l : fs.length < 1000) (q : R (upd H a (.ins C dx (putF f v fs)))) : ∃ (a' C' dx' : Addr) (fs' : List (Str × V)), V.ref a = .ref a' ∧ H a' = some (.ins C' dx' fs') ∧ Cls K C' ∧ NoAttr K C' f ∧ fs'.length < 1000 ∧ R (upd H a' (.ins C' dx' (putF f v fs'))) :=
  ⟨a, C, dx, fs, rfl, e, c, n, l, q⟩
end
end LB

set_option Elab.async false
set_option linter.all false
set_option maxRecDepth 100000
set_option maxHeartbeats 4000000
/-! dicts made in a def -/
namespace LB
open PySem PySem.Spec PyProof.Rows L2
section
variable {X : Cx}
theorem sw_dict {kx vx : Expr} {gs : List Comprehension} {scope : Scope} {pos py : Pos} {y : Str} {l : Nat} {env : Env} (hk : env.scope.kind = .function) (hy : env.scope.names.lookup y = some .local)
    (hl : (py.line == pos.line) = true) (ha : (scope.names.any fun (n, k) => n == y && (k == .local || k == .cell)) = false) : swapsWith (.DictComp kx vx gs scope pos) (some (.Name y py)) l env = pure true := by
  have ky : env.kindOf y = some .local := hy
  have hb : env.blockKind = .function := by
    unfold Env.blockKind
    rw [hk]; rfl
  unfold swapsWith
  simp only [hb, ky, ha, Expr.pos, hl]; rfl
/-- name = {k: v for ..} on one line, the name a local -/
theorem ps_setDc {i : Nat} {y : Str} {py : Pos} {kx vx tg iter : Expr} {ifs : List Expr} {scope : Scope} {own : List (Str × Nat)} {pos spos : Pos} {wi : TI} {g : TG} {tt : TT} {tk tv : TE}
    (hc : X.calm = true) (hN : X.N.Nodup) (hy : X.N[i]? = some y) (hyl : X.env.scope.names.lookup y = some .local)
    (hsw : swapsWith (.DictComp kx vx [⟨tg, iter, ifs, 0⟩] scope pos) (some (.Name y py)) spos.line X.env = pure true) (hi : PI X tg iter wi) (ok : BlkOk X.N X.env.scope scope own)
    (hg : ∀ (s : Shared) (H : Hp) (C : Addr) (cl : List (Str × Addr)) (fp : List Addr), PG (X.blk s H scope (compEnvC scope cl C X.env) fp) tg g)
    (ht : ∀ (s : Shared) (H : Hp) (C : Addr) (cl : List (Str × Addr)) (fp : List Addr), PTs (X.blk s H scope (compEnvC scope cl C X.env) fp) ifs tt)
    (hk : ∀ (s : Shared) (H : Hp) (C : Addr) (cl : List (Str × Addr)) (fp : List Addr), PE (X.blk s H scope (compEnvC scope cl C X.env) fp) kx tk)
    (he : ∀ (s : Shared) (H : Hp) (C : Addr) (cl : List (Str × Addr)) (fp : List Addr), PE (X.blk s H scope (compEnvC scope cl C X.env) fp) vx tv)
    (hs : ∀ x, foldedSetIterable iter X.env x = pure x := by intro _; rfl) :
    PS X (.Assign [.Name y py] (.DictComp kx vx [⟨tg, iter, ifs, 0⟩] scope pos) spos) (tAsg (tDc wi g tt tk tv (own.map (·.2))) (gName i)) := by
  constructor
  intro pins s σ H D I h
  rw [exec_Assign_Name_used _ _ _ _ hsw]
  refine wpAny_bind (wpAny_standAt (wpAny_bind (wpAny_bind (thn (dc_core (use := some (assign (.Name y py) X.env)) (Qf := fun _ t => SP X pins D .next t) hc hN I hi ok hg ht hk he hs
    (show tDc wi g tt tk tv (own.map (·.2)) σ H (fun x H1 => gName i x σ H1 D.nx) from h) ?_) ?_))))
  · intro L C t m H' J q hn f
    refine wpAny_assign_Name (store_ok2 (v := V.ref L) J hN hy (.inl hyl) rfl ?_ (.inr hyl))
    rintro s2 I2 ⟨a, sb, ha⟩
    obtain ⟨f0, f1, f2, f3, f4, f5⟩ := f
    have ne : C ≠ a := ha.elim (fun z => by rw [z]; exact f1) fun z e => f4 y a z e.symm
    exact ⟨m, hn.sameBut sb ne, fun h3 sb3 => ⟨_, H', I2.turned (t' := s2.toks) (fun b o hb e => (sb3.2 b hb).trans e) f0 f1 f3 f4 f5, q⟩⟩
  · exact fun _ t hq => wpAny_pure (wpAny_pure hq)
end
/-! ### reading and writing a dict -/
section
variable {H : Hp} {d : Addr} {kvs : List (Key × V)} {z : Str} {i : Int} {v : V} {r : Option V} {Q : VK}
theorem dgetS {R : Addr → V → Prop} (e : H d = some (.dK kvs)) (l : valV kvs (Sum.inr z) = some v) (q : R d v) : ∃ a v', V.ref d = .ref a ∧ DGet H a (.str z) (some v') ∧ R a v' :=
  ⟨d, v, rfl, l ▸ DGet.k (k := Sum.inr z) e, q⟩
theorem dgetI {R : Addr → V → Prop} (e : H d = some (.dK kvs)) (l : valV kvs (Sum.inl i) = some v) (q : R d v) : ∃ a v', V.ref d = .ref a ∧ DGet H a (.int i) (some v') ∧ R a v' :=
  ⟨d, v, rfl, l ▸ DGet.k (k := Sum.inl i) e, q⟩
theorem dinS {R : Addr → Option V → Prop} (e : H d = some (.dK kvs)) (l : valV kvs (Sum.inr z) = r) (q : R d r) : ∃ a o, V.ref d = .ref a ∧ DGet H a (.str z) o ∧ R a o :=
  ⟨d, r, rfl, l ▸ DGet.k (k := Sum.inr z) e, q⟩
theorem dinI {R : Addr → Option V → Prop} (e : H d = some (.dK kvs)) (l : valV kvs (Sum.inl i) = r) (q : R d r) : ∃ a o, V.ref d = .ref a ∧ DGet H a (.int i) o ∧ R a o :=
  ⟨d, r, rfl, l ▸ DGet.k (k := Sum.inl i) e, q⟩
theorem dniS {R : Addr → Option V → Prop} (e : H d = some (.dK kvs)) (l : valV kvs (Sum.inr z) = r) (q : R d r) : ∃ a o, V.ref d = .ref a ∧ DGet H a (.str z) o ∧ R a o :=
  ⟨d, r, rfl, l ▸ DGet.k (k := Sum.inr z) e, q⟩
theorem dniI {R : Addr → Option V → Prop} (e : H d = some (.dK kvs)) (l : valV kvs (Sum.inl i) = r) (q : R d r) : ∃ a o, V.ref d = .ref a ∧ DGet H a (.int i) o ∧ R a o :=
  ⟨d, r, rfl, l ▸ DGet.k (k := Sum.inl i) e, q⟩
theorem dputS {R : Hp → Prop} (e : H d = some (.dK kvs)) (hl : kvs.length < sizeLine) (q : R (upd H d (.dK (putK kvs (Sum.inr z) v)))) : ∃ a H', V.ref d = .ref a ∧ DPut H a (.str z) v H' ∧ R H' :=
  ⟨d, _, rfl, DPut.k (k := Sum.inr z) e hl, q⟩
theorem dputI {R : Hp → Prop} (e : H d = some (.dK kvs)) (hl : kvs.length < sizeLine) (q : R (upd H d (.dK (putK kvs (Sum.inl i) v)))) : ∃ a H', V.ref d = .ref a ∧ DPut H a (.int i) v H' ∧ R H' :=
  ⟨d, _, rfl, DPut.k (k := Sum.inl i) e hl, q⟩
theorem dputS2 {R : Hp → Prop} (e : H d = some (.dK kvs)) (hl : kvs.length < sizeLine) (q : R (upd H d (.dK (putK kvs (Sum.inr z) v)))) : ∃ H', DPut H d (.str z) v H' ∧ R H' :=
  ⟨_, DPut.k (k := Sum.inr z) e hl, q⟩
theorem dputI2 {R : Hp → Prop} (e : H d = some (.dK kvs)) (hl : kvs.length < sizeLine) (q : R (upd H d (.dK (putK kvs (Sum.inl i) v)))) : ∃ H', DPut H d (.int i) v H' ∧ R H' :=
  ⟨_, DPut.k (k := Sum.inl i) e hl, q⟩
/-! ### len(d) -/
@[irreducible] def rLnD : List V → Hp → VK → Prop := fun xs H Q => ∃ a kvs, xs = [V.ref a] ∧ H a = some (.dK kvs) ∧ Q (.int kvs.length) H
theorem call_lnD {X : Cx} : CallR X (.builtin "len") rLnD := fun pins s σ H xs us Q I r h => call_lenD pins s σ H xs us Q I r (by unfold rLnD at h; exact h)
theorem lnD_go (e : H d = some (.dK kvs)) (q : Q (.int kvs.length) H) : rLnD [.ref d] H Q := by
  unfold rLnD
  exact ⟨d, kvs, rfl, e, q⟩
theorem tyx_d {K : PySem.W.Frag} (e : H d = some (.dK kvs)) : TyX K H (.ref d) (.type "dict") := .base (.dK e)
theorem tyx_lt {K : PySem.W.Frag} {xs : List V} (e : H d = some (.lst xs)) : TyX K H (.ref d) (.type "list") := .base (.lst e)
end
/-! ### more methods of lists -/
@[irreducible] def rIxm (K : PySem.W.Frag) : V → List V → Hp → VK → Prop := fun x vs H Q => rIndex K x vs H Q
theorem mt_ixm {X : Cx} : MtR X "list.index" (rIxm X.K) := fun pins s σ H x xs v us Q I rx rs h => mt_index pins s σ H x xs v us Q I rx rs (by unfold rIxm at h; exact h)
section
variable {K : PySem.W.Frag} {H : Hp} {a : Addr} {ys : List V} {y : V} {Q : VK}
/-- l.index(y): no two items alike -/
theorem ixm_go {j : Nat} (h : SqL K H a ys) (fy : flatV y = true) (fys : ys.all flatV = true) (hj : ys[j]? = some y) (hyy : eqV y y = true) (hno : ∀ (m : Nat) (z' : V), m < j → ys[m]? = some z' → eqV z' y = false) (q : Q (.int (j : Nat)) H) : rIxm K (.ref a) [y] H Q := by
  unfold rIxm
  exact ⟨a, ys, y, j, y, rfl, rfl, h, fy, fys, hj, hyy, hno, q⟩
end
@[irreducible] def rIns : V → List V → Hp → VK → Prop := fun x vs H Q => ∃ (l : Addr) (xs : List V) (i : Int) (y : V), x = .ref l ∧ vs = [.int i, y] ∧ H l = some (.lst xs) ∧ xs.length < sizeLine ∧ 0 ≤ i ∧ i < 2 ^ 63 ∧
    Q .non (upd H l (.lst (xs.take i.toNat ++ [y] ++ xs.drop i.toNat)))
theorem mt_ins {X : Cx} : MtR X "list.insert" rIns := fun pins s σ H x xs v us Q I rx rs h => mt_insert pins s σ H x xs v us Q I rx rs (by unfold rIns at h; exact h)
theorem ins_go {H : Hp} {l : Addr} {xs : List V} {y : V} {i : Nat} {Q : VK} (e : H l = some (.lst xs)) (hl : xs.length < sizeLine) (hi : i < 9223372036854775808) (q : Q .non (upd H l (.lst (xs.take i ++ [y] ++ xs.drop i)))) : rIns (.ref l) [.int (i : Int), y] H Q := by
  unfold rIns
  refine ⟨l, xs, (i : Int), y, rfl, rfl, e, hl, Int.natCast_nonneg _, by omega, ?_⟩
  rw [Int.toNat_natCast]
  exact q
@[irreducible] def rRmv : V → List V → Hp → VK → Prop := fun x vs H Q => rRemI x vs H Q
theorem mt_rmv {X : Cx} : MtR X "list.remove" rRmv := fun pins s σ H x xs v us Q I rx rs h => mt_remove pins s σ H x xs v us Q I rx rs (by unfold rRmv at h; exact h)
end LB

set_option Elab.async false
set_option linter.all false
set_option maxRecDepth 100000
set_option maxHeartbeats 4000000
/-! texts -/
namespace LB
open PySem PySem.Spec PyProof.Rows L2
/-! ### s[i], s[a:b], s + t, len(s), <=, in -/
@[irreducible] def rIxSs : R2 := fun x y H Q => rIxS x y H Q
theorem ix_ss {X : Cx} : IxR X rIxSs := fun value slice pins s σ H x y v u Q I rx ry h hs => ix_str value slice pins s σ H x y v u Q I rx ry (by unfold rIxSs at h; exact h) hs
@[irreducible] def rSlSs : V → Option Int → Option Int → Hp → VK → Prop := fun x lo hi H Q => rSlS x lo hi H Q
theorem sl_ss {X : Cx} : SlR X rSlSs := fun pins s σ H x v vl vu lo hi sl Q I rx hs pl pu h => sl_str pins s σ H x v vl vu lo hi sl Q I rx hs pl pu (by unfold rSlSs at h; exact h)
@[irreducible] def rAddS : R2 := fun x y H Q => ∃ i j, x = .str i ∧ y = .str j ∧ i.length + j.length ≤ sizeLine ∧ Q (.str (i ++ j)) H
theorem op_addS {X : Cx} : OpR X (binaryOp .Add) rAddS := fun pins s σ H x y v u Q I rx ry h => op_add_str pins s σ H x y v u Q I rx ry (by unfold rAddS at h; exact h)
@[irreducible] def rLenS : List V → Hp → VK → Prop := fun xs H Q => ∃ z, xs = [.str z] ∧ z.length ≤ sizeLine ∧ Q (.int z.length) H
theorem call_lenS {X : Cx} : CallR X (.builtin "len") rLenS := fun pins s σ H xs us Q I r h => call_len_str pins s σ H xs us Q I r (by unfold rLenS at h; exact h)
@[irreducible] def rLeS : R2 := fun x y H Q => ∃ i j, x = .str i ∧ y = .str j ∧ Q (.bl (!decide (j.cps.toList < i.cps.toList))) H
theorem op_leS {X : Cx} : OpR X (compareOp .LtE) rLeS := fun pins s σ H x y v u Q I rx ry h => op_le_str pins s σ H x y v u Q I rx ry (by unfold rLeS at h; exact h)
@[irreducible] def rInC (neg : Bool) : R2 := fun x y H Q => ∃ (c : Nat) (z : Str), x = .str ⟨#[c]⟩ ∧ y = .str z ∧ Q (.bl (if neg then !decide (c ∈ z.cps.toList) else decide (c ∈ z.cps.toList))) H
theorem op_inC {X : Cx} : OpR X (compareOp .In) (rInC false) := fun pins s σ H x y v u Q I rx ry h => op_in_sign pins s σ H x y v u Q I rx ry (by unfold rInC at h; exact h)
theorem op_niC {X : Cx} : OpR X (compareOp .NotIn) (rInC true) := fun pins s σ H x y v u Q I rx ry h => op_notIn_sign pins s σ H x y v u Q I rx ry (by unfold rInC at h; exact h)
section
variable {H : Hp} {Q : VK} {z y : Str} {i : Int} {c : Nat} {lo hi : Option Int}
theorem ixS_go (h : z.length ≤ sizeLine) (e : atI z.cps.toList i = some c) (q : Q (.str ⟨#[c]⟩) H) : rIxSs (.str z) (.int i) H Q := by
  unfold rIxSs
  exact ⟨z, i, c, rfl, rfl, h, e, q⟩
theorem slS_go (h : z.length ≤ sizeLine) (q : Q (.str (cutS z lo hi)) H) : rSlSs (.str z) lo hi H Q := by
  unfold rSlSs
  exact ⟨z, rfl, h, q⟩
theorem addS_go (h : z.length + y.length ≤ sizeLine) (q : Q (.str (z ++ y)) H) : rAddS (.str z) (.str y) H Q := by
  unfold rAddS
  exact ⟨z, y, rfl, rfl, h, q⟩
theorem lenS_go (h : z.length ≤ sizeLine) (q : Q (.int z.length) H) : rLenS [.str z] H Q := by
  unfold rLenS
  exact ⟨z, rfl, h, q⟩
theorem leS_go (q : Q (.bl (!decide (y.cps.toList < z.cps.toList))) H) : rLeS (.str z) (.str y) H Q := by
  unfold rLeS
  exact ⟨z, y, rfl, rfl, q⟩
theorem inC_go (q : Q (.bl (decide (c ∈ z.cps.toList))) H) : rInC false (.str ⟨#[c]⟩) (.str z) H Q := by
  unfold rInC
  exact ⟨c, z, rfl, rfl, q⟩
theorem niC_go (q : Q (.bl (!decide (c ∈ z.cps.toList))) H) : rInC true (.str ⟨#[c]⟩) (.str z) H Q := by
  unfold rInC
  exact ⟨c, z, rfl, rfl, q⟩
end
/-! ### for c in s -/
theorem for_txt {z : Str} {g : TG} {tb : TS} {D : Ends} {σ : L2.St} {H : Hp} (Pv : Nat → L2.St → Hp → Prop) (h0 : Pv 0 σ H)
    (hs : ∀ (i : Nat) (c : Nat) (σ : L2.St) (H : Hp), z.cps.toList[i]? = some c → Pv i σ H → g (.str ⟨#[c]⟩) σ H fun σ2 H2 => tb { D with nx := Pv (i + 1), ct := Pv (i + 1), bk := D.nx } σ2 H2) (hd : ∀ σ H, Pv z.cps.size σ H → D.nx σ H) :
    ∃ W : Nat → Nat → L2.St → Hp → Prop, (∃ m, W 0 m σ H) ∧ ∀ i m σ H, W i m σ H →
      ((Its z).stop i H ∧ D.nx σ H) ∨ ((Its z).go i H ∧ ∃ N : L2.St → Hp → Prop, (∀ σ' H', N σ' H' → ∃ m', m' < m ∧ W (i + 1) m' σ' H') ∧ ∀ x H', (Its z).yld i H x H' → g x σ H' fun σ2 H2 => tb { D with nx := N, ct := N, bk := D.nx } σ2 H2) := by
  refine ⟨fun i m σ H => m = z.cps.size - i ∧ i ≤ z.cps.size ∧ Pv i σ H, ⟨z.cps.size, by simp, Nat.zero_le _, h0⟩, ?_⟩
  rintro i m σ H ⟨rfl, hi, p⟩
  by_cases hlt : i < z.cps.size
  · refine .inr ⟨hlt, Pv (i + 1), fun σ' H' p' => ⟨z.cps.size - (i + 1), by omega, rfl, hlt, p'⟩, fun x H' y => ?_⟩
    obtain ⟨rfl, c, e, rfl⟩ := y
    exact hs i c σ H' (by rw [Array.getElem?_toList]; exact e) p
  · have e : i = z.cps.size := by omega
    subst e
    exact .inl ⟨Nat.le_refl _, hd σ H p⟩
/-! ### plain facts -/
theorem lt_one {a b : Nat} : (([a] : List Nat) < [b]) ↔ a < b := by
  constructor
  · intro h
    cases h with
    | rel h => exact h
    | cons h => cases h
  · intro h
    exact .rel h
theorem okS_of {z : Str} (h : ∀ c ∈ z.cps.toList, c < 1114112) : okS z = true := by
  unfold okS
  refine List.all_eq_true.mpr fun c hc => ?_
  rw [Nat.blt_eq]
  exact h c hc
theorem okS_mem {z : Str} (h : okS z = true) : ∀ c ∈ z.cps.toList, c < 1114112 := fun c hc => by
  unfold okS at h
  have := List.all_eq_true.mp h c hc
  rw [Nat.blt_eq] at this
  exact this
theorem okS_app {y z : Str} (h : okS y = true) (k : okS z = true) : okS (y ++ z) = true := okS_of fun c hc => by
  have e : (y ++ z).cps.toList = y.cps.toList ++ z.cps.toList := Array.toList_append
  rw [e, List.mem_append] at hc
  exact hc.elim (okS_mem h c) (okS_mem k c)
theorem okS_cut {z : Str} (h : okS z = true) (lo hi : Option Int) : okS (cutS z lo hi) = true := okS_of fun c hc => by
  have e : (cutS z lo hi).cps.toList = ((z.cps.toList.drop (HT.sIx z.length 0 lo)).take (HT.sIx z.length z.length hi - HT.sIx z.length 0 lo)) := rfl
  rw [e] at hc
  exact okS_mem h c (List.mem_of_mem_drop (List.mem_of_mem_take hc))
theorem okS_one {c : Nat} (h : c < 1114112) : okS ⟨#[c]⟩ = true := okS_of fun d hd => by
  have e : (⟨#[c]⟩ : Str).cps.toList = [c] := rfl
  rw [e, List.mem_singleton] at hd
  omega
theorem len_app {y z : Str} : (y ++ z).length = y.length + z.length := Array.size_append
theorem len_cut (z : Str) (lo hi : Option Int) : (cutS z lo hi).length ≤ z.length := by
  show (((z.cps.toList.drop (HT.sIx z.length 0 lo)).take (HT.sIx z.length z.length hi - HT.sIx z.length 0 lo)).toArray).size ≤ z.length
  rw [List.size_toArray, List.length_take, List.length_drop]
  have : z.cps.toList.length = z.length := rfl
  omega
theorem len_list (z : Str) : z.cps.toList.length = z.length := rfl
theorem atI_txt {z : Str} {i : Int} (j : Nat) (h : j < z.length) (e : i = j) : ∃ c, z.cps.toList[j]? = some c ∧ c ∈ z.cps.toList ∧ atI z.cps.toList i = some c := by
  subst e
  have h' : j < z.cps.toList.length := h
  exact ⟨_, List.getElem?_eq_getElem h', List.getElem_mem h', atI_nat (List.getElem?_eq_getElem h')⟩
/-! ### names -/
def lowC (c : Nat) : Bool := decide (97 ≤ c) && decide (c ≤ 122)
def digC (c : Nat) : Bool := decide (48 ≤ c) && decide (c ≤ 57)
def headC : List Nat → Bool
  | c :: _ => lowC c
  | [] => false
def nameB (z : Str) : Bool := (decide (1 ≤ z.length) && decide (z.length ≤ 12)) && (headC z.cps.toList && z.cps.toList.all fun c => lowC c || digC c)
theorem low_le (c : Nat) : (!decide ([c] < [97])) = decide (97 ≤ c) := by
  by_cases h : 97 ≤ c
  · rw [decide_eq_true h, decide_eq_false (by rw [lt_one]; omega)]; rfl
  · rw [decide_eq_false h, decide_eq_true (by rw [lt_one]; omega)]; rfl
theorem in_low (c : Nat) : decide (c ∈ ("abcdefghijklmnopqrstuvwxyz" : Str).cps.toList) = lowC c := by
  have e : ("abcdefghijklmnopqrstuvwxyz" : Str).cps.toList = [97, 98, 99, 100, 101, 102, 103, 104, 105, 106, 107, 108, 109, 110, 111, 112, 113, 114, 115, 116, 117, 118, 119, 120, 121, 122] := by decide +kernel
  rw [e]
  unfold lowC
  rw [Bool.eq_iff_iff, Bool.and_eq_true, decide_eq_true_iff, decide_eq_true_iff, decide_eq_true_iff]
  simp only [List.mem_cons, List.not_mem_nil, or_false]
  omega
theorem in_dig (c : Nat) : decide (c ∈ ("0123456789" : Str).cps.toList) = digC c := by
  have e : ("0123456789" : Str).cps.toList = [48, 49, 50, 51, 52, 53, 54, 55, 56, 57] := by decide +kernel
  rw [e]
  unfold digC
  rw [Bool.eq_iff_iff, Bool.and_eq_true, decide_eq_true_iff, decide_eq_true_iff, decide_eq_true_iff]
  simp only [List.mem_cons, List.not_mem_nil, or_false]
  omega
/-! ### sep.join(xs) -/
@[irreducible] def rJoinS (K : PySem.W.Frag) : V → List V → Hp → VK → Prop := fun x xs H Q => ∃ a p, ∃ ys : List Str, x = .str a ∧ xs = [.ref p] ∧ (SqL K H p (ys.map V.str) ∨ SqT K H p (ys.map V.str)) ∧ (ys.map (·.length)).sum + ys.length * a.length ≤ 16777216 ∧ Q (.str (Txt.join a ys)) H
theorem mt_joinS {X : Cx} : MtR X "str.join" (rJoinS X.K) := fun pins s σ H x xs v us Q I rx rs h => mt_join pins s σ H x xs v us Q I rx rs (by unfold rJoinS at h; exact h)
theorem joinS_go {K : PySem.W.Frag} {H : Hp} {Q : VK} {a : Str} {p : Addr} {ys : List Str} (h : SqL K H p (ys.map V.str)) (hz : (ys.map (·.length)).sum + ys.length * a.length ≤ 16777216) (q : Q (.str (Txt.join a ys)) H) : rJoinS K (.str a) [.ref p] H Q := by
  unfold rJoinS
  exact ⟨a, p, ys, rfl, rfl, .inl h, hz, q⟩
theorem nameB_iff {z : Str} : nameB z = true ↔ 1 ≤ z.length ∧ z.length ≤ 12 ∧ headC z.cps.toList = true ∧ ∀ c ∈ z.cps.toList, (lowC c || digC c) = true := by
  unfold nameB
  rw [Bool.and_eq_true, Bool.and_eq_true, Bool.and_eq_true, decide_eq_true_iff, decide_eq_true_iff, List.all_eq_true]
  exact ⟨fun h => ⟨h.1.1, h.1.2, h.2.1, h.2.2⟩, fun h => ⟨⟨h.1, h.2.1⟩, h.2.2.1, h.2.2.2⟩⟩
theorem nameB_no {z : Str} (h : ¬ (1 ≤ z.length ∧ z.length ≤ 12 ∧ headC z.cps.toList = true ∧ ∀ c ∈ z.cps.toList, (lowC c || digC c) = true)) : nameB z = false := by
  rw [Bool.eq_false_iff]
  exact fun k => h (nameB_iff.mp k)
theorem head_of {z : Str} {c : Nat} (e : z.cps.toList[0]? = some c) : headC z.cps.toList = lowC c := by
  cases h : z.cps.toList with
  | nil => rw [h] at e; cases e
  | cons d r =>
    rw [h] at e
    cases e
    rfl
theorem tl_join0 : ∀ ys : List Str, (Txt.join Str.empty ys).cps.toList = ys.flatMap (fun y => y.cps.toList)
  | [] => rfl
  | [x] => by rw [TL.join_eq]; exact (List.append_nil _).symm
  | x :: z :: r => by
    have ih := tl_join0 (z :: r)
    rw [TL.join_eq] at ih ⊢
    show ((x ++ Str.empty ++ Str.join Str.empty (z :: r)).cps).toList = _
    have e1 : (x ++ Str.empty ++ Str.join Str.empty (z :: r)).cps.toList = x.cps.toList ++ (Str.join Str.empty (z :: r)).cps.toList := by
      show ((x.cps ++ #[]) ++ (Str.join Str.empty (z :: r)).cps).toList = _
      rw [Array.append_empty, Array.toList_append]
    rw [e1, ih]
    rfl
theorem join_chars (ys : List Nat) : (Txt.join Str.empty (ys.map fun c => (⟨#[c]⟩ : Str))).cps.toList = ys := by
  rw [tl_join0]
  induction ys with
  | nil => rfl
  | cons a r ih =>
    rw [List.map_cons, List.flatMap_cons, ih]
    rfl
theorem join_len (ys : List Nat) : (Txt.join Str.empty (ys.map fun c => (⟨#[c]⟩ : Str))).length = ys.length := by
  have e := join_chars ys
  have : (Txt.join Str.empty (ys.map fun c => (⟨#[c]⟩ : Str))).cps.toList.length = ys.length := by rw [e]
  exact this
theorem join_ok {ys : List Nat} (h : ∀ c ∈ ys, c < 1114112) : okS (Txt.join Str.empty (ys.map fun c => (⟨#[c]⟩ : Str))) = true := okS_of fun c hc => by
  rw [join_chars] at hc
  exact h c hc
theorem sum_ones (ys : List Nat) : ((ys.map fun c => (⟨#[c]⟩ : Str)).map (·.length)).sum = ys.length := by
  induction ys with
  | nil => rfl
  | cons a r ih =>
    rw [List.map_cons, List.map_cons, List.sum_cons, ih]
    show 1 + r.length = r.length + 1
    omega
end LB

set_option Elab.async false
set_option linter.all false
set_option maxRecDepth 100000
set_option maxHeartbeats 4000000
/-! written dates -/
namespace LB
open PySem PySem.Spec PyProof.Rows L2
open PySem.NumText (AllDigits digitsVal)
@[irreducible] def rIntS : List V → Hp → VK → Prop := fun xs H Q => ∃ a n, xs = [.str a] ∧ PySem.intText? a = some n ∧ a.length ≤ 640 ∧ Q (.int n) H
theorem call_intS {X : Cx} : CallR X (.type "int") rIntS := fun pins s σ H xs us Q I r h => call_int_str pins s σ H xs us Q I r (by unfold rIntS at h; exact h)
@[irreducible] def rStrI : List V → Hp → VK → Prop := fun xs H Q => ∃ i : Int, xs = [.int i] ∧ i.natAbs.log2 < 1920 ∧ Q (.str (toString i)) H
theorem call_strI {X : Cx} : CallR X (.type "str") rStrI := fun pins s σ H xs us Q I r h => call_str_int pins s σ H xs us Q I r (by unfold rStrI at h; exact h)
/-- the number that digits write -/
def dv (z : Str) (lo hi : Option Int) : Int := ((digitsVal (cutS z lo hi).cps.toList : Nat) : Int)
section
variable {H : Hp} {Q : VK}
theorem intS_go {z : Str} {n : Int} (h : PySem.intText? z = some n) (hl : z.length ≤ 640) (q : Q (.int n) H) : rIntS [.str z] H Q := by
  unfold rIntS
  exact ⟨z, n, rfl, h, hl, q⟩
theorem strI_go {i : Int} (h : i.natAbs.log2 < 1920) (q : Q (.str (toString i)) H) : rStrI [.int i] H Q := by
  unfold rStrI
  exact ⟨i, rfl, h, q⟩
end
theorem intT {z : Str} {lo hi : Option Int} (h : ∀ c ∈ (cutS z lo hi).cps.toList, digC c = true) (hn : (cutS z lo hi).cps.toList ≠ []) (hl : z.length ≤ 600) : PySem.intText? (cutS z lo hi) = some (dv z lo hi) := by
  refine PySem.intText_digits (fun c hc => ?_) hn (Nat.le_trans (len_cut z lo hi) (by omega))
  have := h c hc
  unfold digC at this
  rw [Bool.and_eq_true, decide_eq_true_iff, decide_eq_true_iff] at this
  exact this
/-- ten signs, two of them strokes, the others digits -/
def writB (z : Str) : Bool := match z.cps.toList with
  | [a, b, c, d, s, e, f, t, g, h] => decide (s = 45) && (decide (t = 45) && ((digC a && (digC b && (digC c && digC d))) && ((digC e && digC f) && (digC g && digC h))))
  | _ => false
def dateB (z : Str) : Bool := writB z && decide ((2000 ≤ dv z none (some 4) ∧ dv z none (some 4) ≤ 2199 ∧ 1 ≤ dv z (some 5) (some 7) ∧ dv z (some 5) (some 7) ≤ 12) ∧ (1 ≤ dv z (some 8) none ∧ dv z (some 8) none ≤ mlen (dv z none (some 4)) (dv z (some 5) (some 7))))
theorem writ_ten {z : Str} (h : writB z = true) : ∃ a b c d e f g k : Nat, z.cps.toList = [a, b, c, d, 45, e, f, 45, g, k] ∧ digC a = true ∧ digC b = true ∧ digC c = true ∧ digC d = true ∧ digC e = true ∧ digC f = true ∧ digC g = true ∧ digC k = true := by
  unfold writB at h
  split at h
  · rename_i a b c d s e f t g k e0
    simp only [Bool.and_eq_true, decide_eq_true_eq] at h
    obtain ⟨rfl, rfl, ⟨h1, h2, h3, h4⟩, ⟨h5, h6⟩, h7, h8⟩ := h
    exact ⟨a, b, c, d, e, f, g, k, e0, h1, h2, h3, h4, h5, h6, h7, h8⟩
  · cases h
theorem list10 {l : List Nat} (h : l.length = 10) : ∃ a b c d s e f t g k, l = [a, b, c, d, s, e, f, t, g, k] := by
  match l, h with
  | [a, b, c, d, s, e, f, t, g, k], _ => exact ⟨a, b, c, d, s, e, f, t, g, k, rfl⟩
theorem writ_iff {z : Str} : writB z = true ↔ z.length = 10 ∧ ∀ i, i < 10 → ∀ c, z.cps.toList[i]? = some c → (if i = 4 ∨ i = 7 then c = 45 else digC c = true) := by
  constructor
  · intro h
    obtain ⟨a, b, c, d, e, f, g, k, e0, h1, h2, h3, h4, h5, h6, h7, h8⟩ := writ_ten h
    refine ⟨by rw [← len_list, e0]; rfl, fun i hi x hx => ?_⟩
    rw [e0] at hx
    match i, hi, hx with
    | 0, _, hx => cases hx; exact h1
    | 1, _, hx => cases hx; exact h2
    | 2, _, hx => cases hx; exact h3
    | 3, _, hx => cases hx; exact h4
    | 4, _, hx => cases hx; rfl
    | 5, _, hx => cases hx; exact h5
    | 6, _, hx => cases hx; exact h6
    | 7, _, hx => cases hx; rfl
    | 8, _, hx => cases hx; exact h7
    | 9, _, hx => cases hx; exact h8
  · rintro ⟨hl, hh⟩
    rw [← len_list] at hl
    obtain ⟨a, b, c, d, s, e, f, t, g, k, e0⟩ := list10 hl
    rw [e0] at hh
    have h0 : digC a = true := hh 0 (by decide) a rfl
    have h1 : digC b = true := hh 1 (by decide) b rfl
    have h2 : digC c = true := hh 2 (by decide) c rfl
    have h3 : digC d = true := hh 3 (by decide) d rfl
    have h4 : s = 45 := hh 4 (by decide) s rfl
    have h5 : digC e = true := hh 5 (by decide) e rfl
    have h6 : digC f = true := hh 6 (by decide) f rfl
    have h7 : t = 45 := hh 7 (by decide) t rfl
    have h8 : digC g = true := hh 8 (by decide) g rfl
    have h9 : digC k = true := hh 9 (by decide) k rfl
    unfold writB
    rw [e0]
    simp only [h0, h1, h2, h3, h4, h5, h6, h7, h8, h9, decide_true, Bool.and_self]
theorem cut_ten {z : Str} {a b c d s e f t g k : Nat} (e0 : z.cps.toList = [a, b, c, d, s, e, f, t, g, k]) : (cutS z none (some 4)).cps.toList = [a, b, c, d] ∧ (cutS z (some 5) (some 7)).cps.toList = [e, f] ∧ (cutS z (some 8) none).cps.toList = [g, k] := by
  have hl : z.length = 10 := by rw [← len_list, e0]; rfl
  refine ⟨?_, ?_, ?_⟩
  all_goals
    unfold cutS
    rw [e0, hl]
    rfl
theorem writ_ints {z : Str} (h : writB z = true) : PySem.intText? (cutS z none (some 4)) = some (dv z none (some 4)) ∧ PySem.intText? (cutS z (some 5) (some 7)) = some (dv z (some 5) (some 7)) ∧ PySem.intText? (cutS z (some 8) none) = some (dv z (some 8) none) := by
  obtain ⟨a, b, c, d, e, f, g, k, e0, h1, h2, h3, h4, h5, h6, h7, h8⟩ := writ_ten h
  obtain ⟨c1, c2, c3⟩ := cut_ten e0
  have hl : z.length ≤ 600 := by rw [← len_list, e0]; show 10 ≤ 600; decide
  refine ⟨intT ?_ (by rw [c1]; intro h; cases h) hl, intT ?_ (by rw [c2]; intro h; cases h) hl, intT ?_ (by rw [c3]; intro h; cases h) hl⟩
  · rw [c1]
    intro x hx
    simp only [List.mem_cons, List.not_mem_nil, or_false] at hx
    rcases hx with rfl | rfl | rfl | rfl <;> assumption
  · rw [c2]
    intro x hx
    simp only [List.mem_cons, List.not_mem_nil, or_false] at hx
    rcases hx with rfl | rfl <;> assumption
  · rw [c3]
    intro x hx
    simp only [List.mem_cons, List.not_mem_nil, or_false] at hx
    rcases hx with rfl | rfl <;> assumption
/-! ### numbers, padded -/
def padS (size : Nat) (t : Str) : Str := if t.length < size then "0" ++ t else t
def padR (n : Int) (size : Nat) : Nat → Str
  | 0 => toString n
  | k + 1 => padS size (padR n size k)
@[irreducible] def padT (n : Int) (size k : Nat) : Str := padR n size k
theorem padT_0 {n : Int} {size : Nat} : padT n size 0 = toString n := by unfold padT; rfl
theorem padT_y {n : Int} {size k : Nat} (h : (padT n size k).length < size) : padT n size (k + 1) = "0" ++ padT n size k := by
  unfold padT at *
  exact if_pos h
theorem padT_n {n : Int} {size k : Nat} (h : ¬ (padT n size k).length < size) : padT n size (k + 1) = padT n size k := by
  unfold padT at *
  exact if_neg h
theorem pad2 : ∀ n : Nat, n < 32 → (padT (n : Int) 2 2).cps.toList = [48 + n / 10, 48 + n % 10] := by decide +kernel
theorem pad4 : ∀ n : Nat, n < 200 → (padT ((2000 + n : Nat) : Int) 4 4).cps.toList = [50, 48 + n / 100, 48 + n / 10 % 10, 48 + n % 10] := by decide +kernel
theorem str_len (n : Nat) (h : n < 10000) : (Str.ofString (toString ((n : Nat) : Int))).length ≤ 4 := by
  have h2 := (Nat.length_repr_le_iff (n := n) (by decide : 0 < 4)).mpr h
  rw [← String.length_toList] at h2
  show (Str.ofString (Nat.repr n)).cps.size ≤ 4
  rw [Str.ofString_eq_toList]
  simpa using h2
theorem padT_len {n : Int} {size : Nat} (h0 : 0 ≤ n) (h1 : n ≤ 9999) : ∀ k, (padT n size k).length ≤ 4 + k
  | 0 => by
    obtain ⟨m, rfl⟩ : ∃ m : Nat, n = m := ⟨n.toNat, by omega⟩
    rw [padT_0]
    exact str_len m (by omega)
  | k + 1 => by
    have ih := padT_len (size := size) h0 h1 k
    by_cases h : (padT n size k).length < size
    · rw [padT_y h, len_app]
      show 1 + _ ≤ _
      omega
    · rw [padT_n h]
      omega
theorem tl_app (a b : Str) : (a ++ b).cps.toList = a.cps.toList ++ b.cps.toList := Array.toList_append
theorem wr_date {y m x : Int} (h : IsDate y m x) {z : Str} (e : z = padT y 4 4 ++ "-" ++ padT m 2 2 ++ "-" ++ padT x 2 2) : z.length = 10 ∧ okS z = true ∧ dateB z = true ∧ dv z none (some 4) = y ∧ dv z (some 5) (some 7) = m ∧ dv z (some 8) none = x := by
  have y0 := h.y0; have y1 := h.y1; have m0 := h.m0; have m1 := h.m1; have x0 := h.d0; have x1 := h.d1
  have hml := mlen_pos y m
  obtain ⟨a, ha, rfl⟩ : ∃ a : Nat, a < 200 ∧ y = ((2000 + a : Nat) : Int) := ⟨(y - 2000).toNat, by omega, by omega⟩
  obtain ⟨b, hb, rfl⟩ : ∃ b : Nat, b < 32 ∧ m = ((b : Nat) : Int) := ⟨m.toNat, by omega, by omega⟩
  obtain ⟨c, hc, rfl⟩ : ∃ c : Nat, c < 32 ∧ x = ((c : Nat) : Int) := ⟨x.toNat, by omega, by omega⟩
  have e1 : ("-" : Str).cps.toList = [45] := by decide +kernel
  have e0 : z.cps.toList = [50, 48 + a / 100, 48 + a / 10 % 10, 48 + a % 10, 45, 48 + b / 10, 48 + b % 10, 45, 48 + c / 10, 48 + c % 10] := by
    rw [e, tl_app, tl_app, tl_app, tl_app, pad4 a ha, pad2 b hb, pad2 c hc, e1]
    rfl
  have hl : z.length = 10 := by rw [← LB.len_list, e0]; rfl
  obtain ⟨k1, k2, k3⟩ := cut_ten e0
  have v1 : dv z none (some 4) = ((2000 + a : Nat) : Int) := by
    unfold dv
    rw [k1]
    simp only [digitsVal, List.foldl]
    omega
  have v2 : dv z (some 5) (some 7) = (b : Int) := by
    unfold dv
    rw [k2]
    simp only [digitsVal, List.foldl]
    omega
  have v3 : dv z (some 8) none = (c : Int) := by
    unfold dv
    rw [k3]
    simp only [digitsVal, List.foldl]
    omega
  have dg : ∀ n : Nat, n < 10 → digC (48 + n) = true := fun n hn => by
    unfold digC
    rw [Bool.and_eq_true, decide_eq_true_iff, decide_eq_true_iff]
    omega
  have hw : writB z = true := by
    have g0 : digC 50 = true := by decide
    have g1 := dg (a / 100) (by omega)
    have g2 := dg (a / 10 % 10) (by omega)
    have g3 := dg (a % 10) (by omega)
    have g4 := dg (b / 10) (by omega)
    have g5 := dg (b % 10) (by omega)
    have g6 := dg (c / 10) (by omega)
    have g7 := dg (c % 10) (by omega)
    unfold writB
    rw [e0]
    simp only [g0, g1, g2, g3, g4, g5, g6, g7, decide_true, Bool.and_self]
  refine ⟨hl, okS_of fun d hd => ?_, ?_, v1, v2, v3⟩
  · rw [e0] at hd
    simp only [List.mem_cons, List.not_mem_nil, or_false] at hd
    omega
  · unfold dateB
    rw [hw, v1, v2, v3, Bool.true_and, decide_eq_true_iff]
    exact ⟨⟨y0, y1, m0, m1⟩, x0, x1⟩
theorem cutV_map (ns : List Int) (lo hi : Option Int) : ∃ ms : List Int, cutV (ns.map V.int) lo hi = ms.map V.int ∧ ms.length ≤ ns.length := by
  refine ⟨(ns.drop (HT.sIx (ns.map V.int).length 0 lo)).take (HT.sIx (ns.map V.int).length (ns.map V.int).length hi - HT.sIx (ns.map V.int).length 0 lo), ?_, ?_⟩
  · unfold cutV
    rw [List.map_take, List.map_drop]
  · rw [List.length_take, List.length_drop]
    omega
/-- the signs of the drawn texts -/
def chL : List Nat := [48, 49, 50, 51, 52, 53, 54, 55, 56, 57, 45, 45, 32, 10, 47, 46, 58, 97, 98, 89, 90, 43, 95, 44]
def chC (c : Int) : Nat := chL.getD (c % 24).toNat 0
def chOf (c : Int) : Str := ⟨#[chC c]⟩
theorem chC_ok (c : Int) : chC c < 1114112 := by
  have : ∀ m : Nat, m < 24 → chL.getD m 0 < 1114112 := by decide
  exact this _ (by omega)
end LB

set_option Elab.async false
set_option linter.all false
set_option maxRecDepth 100000
set_option maxHeartbeats 4000000
/-! keyword-only parameters; sorted of a tuple of texts -/
namespace LB
open PySem PySem.Spec PyProof.Rows L2
/-! ### what a keyword-only def holds -/
theorem kw_nil {K : PySem.W.Frag} {D : Addr} : ∀ q ∈ ([] : List (Str × V)), ∃ u, PySem.W.nsIn K D q.1 = some (some u) ∧ RelV q.2 u := fun _ h => by cases h
theorem kw_cons {K : PySem.W.Frag} {D : Addr} {x : Str × V} {l : List (Str × V)} {u : Value} (a : PySem.W.nsIn K D x.1 = some (some u)) (b : RelV x.2 u) (t : ∀ q ∈ l, ∃ u, PySem.W.nsIn K D q.1 = some (some u) ∧ RelV q.2 u) :
    ∀ q ∈ x :: l, ∃ u, PySem.W.nsIn K D q.1 = some (some u) ∧ RelV q.2 u := fun q h => by
  rcases List.mem_cons.mp h with e | h
  · rw [e]; exact ⟨u, a, b⟩
  · exact t q h
theorem fun_ofK {K : PySem.W.Frag} {x qual : Str} {pa : Arguments} {bd : List Stmt} {sc : Scope} {f D : Addr} {oc : Value} {od an : Option Addr} {osl : Array (Option Value)} {doc pm cdv ct : Value} {kws : List (Str × V)}
    (l : K.lookup f = some ⟨oc, od, .func (PySem.W.fnOf x qual pa bd sc .none (.ref D) doc pm an cdv ct), osl⟩) (c : PySem.W.codeIn K cdv qual = true) (k : PySem.W.keepIn K (.ref f) = true)
    (v : ∀ q ∈ kws, ∃ u, PySem.W.nsIn K D q.1 = some (some u) ∧ RelV q.2 u) :
    FunD K x qual pa bd sc [] kws f (PySem.W.fnOf x qual pa bd sc .none (.ref D) doc pm an cdv ct) := ⟨⟨oc, od, _, _, doc, pm, an, cdv, ct, osl, rfl, l, c, .inl ⟨rfl, rfl⟩, .inr ⟨D, rfl, v⟩⟩, k⟩
/-- items by their places, in one of two lists -/
def pick {α : Type} (sel : List (Nat ⊕ Nat)) (mv ws : List α) : List α := sel.filterMap fun
  | .inl i => mv[i]?
  | .inr j => ws[j]?
theorem vals_get {xs : List V} {us : List Value} (r : Vals xs us) (i : Nat) : (xs[i]? = none ∧ us[i]? = none) ∨ ∃ x u, xs[i]? = some x ∧ us[i]? = some u ∧ RelV x u := by
  cases e : xs[i]? with
  | none =>
    refine .inl ⟨rfl, ?_⟩
    rw [List.getElem?_eq_none_iff] at e ⊢
    rw [← r.length]
    exact e
  | some x =>
    obtain ⟨u, h1, h2⟩ := r.get e
    exact .inr ⟨x, u, rfl, h1, h2⟩
theorem pick_vals {mz zs : List V} {mv ws : List Value} (r1 : Vals mz mv) (r2 : Vals zs ws) : ∀ sel : List (Nat ⊕ Nat), Vals (pick sel mz zs) (pick sel mv ws)
  | [] => .nil
  | .inl i :: sel => by
    have ih := pick_vals r1 r2 sel
    rcases vals_get r1 i with ⟨h1, h2⟩ | ⟨x, u, h1, h2, h3⟩
    · simp only [pick, List.filterMap_cons, h1, h2]
      exact ih
    · simp only [pick, List.filterMap_cons, h1, h2]
      exact .cons h3 ih
  | .inr i :: sel => by
    have ih := pick_vals r1 r2 sel
    rcases vals_get r2 i with ⟨h1, h2⟩ | ⟨x, u, h1, h2, h3⟩
    · simp only [pick, List.filterMap_cons, h1, h2]
      exact ih
    · simp only [pick, List.filterMap_cons, h1, h2]
      exact .cons h3 ih
section
variable {M : Model} {h : Heap}
theorem looks_forIn {α β : Type} {f : α → β → Sem (ForInStep β)} : ∀ {xs : List α} {b0 : β} (g : Nat → β), g 0 = b0 → (∀ i x, xs[i]? = some x → PySem.W.Looks M h (f x (g i)) (.yield (g (i + 1)))) → PySem.W.Looks M h (forIn xs b0 f) (g xs.length)
  | [], b0, g, h0, _ => by subst h0; exact .of_pure (by simp)
  | x :: xs, b0, g, h0, hs => by
    subst h0
    rw [List.forIn_cons]
    exact (hs 0 x rfl).andThen (looks_forIn (xs := xs) (fun i => g (i + 1)) rfl fun i x e => hs (i + 1) x (by simpa using e))
/-- what the keyword-only names are given -/
def kwVal (kw : List (Str × Value)) (dfl : Str → Value) (n : Str) : Value := (kw.lookup n).getD (dfl n)
theorem lookup_app {α β : Type} [BEq α] (k : α) : ∀ (l m : List (α × β)), (l ++ m).lookup k = (l.lookup k).or (m.lookup k)
  | [], m => by simp [List.lookup]
  | (a, b) :: l, m => by
    simp only [List.cons_append, List.lookup]
    split
    · rfl
    · exact lookup_app k l m
theorem lookup_no {β : Type} {k : Str} : ∀ {l : List (Str × β)}, k ∉ l.map (·.1) → l.lookup k = none
  | [], _ => rfl
  | (a, b) :: l, h => by
    rw [List.map_cons, List.mem_cons, not_or] at h
    have e : (k == a) = false := by simpa using h.1
    simp only [List.lookup, e]
    exact lookup_no h.2
theorem bind_kwo {K : PySem.W.Frag} (X : K.In h) {fd : FuncData} {a : Str} {ko : List Str} {u : Value} {kw : List (Str × Value)} {D : Addr} {dfl : Str → Value} (h1 : fd.params.posonlyargs = []) (h2 : fd.params.args.map (·.arg) = [a]) (h3 : fd.params.vararg = none) (h4 : fd.params.kwarg = none) (h5 : fd.params.kwonlyargs.map (·.arg) = ko)
    (hd : fd.defaults = .none) (hk : fd.kwdefaults = .ref D) (hin : ∀ p ∈ kw, ko.contains p.1 = true) (hnd : (a :: kw.map (·.1)).Nodup) (hko : (a :: ko).Nodup) (hD : ∀ n ∈ ko, kw.lookup n = none → PySem.W.nsIn K D n = some (some (dfl n))) :
    PySem.W.Looks M h (PySem.bindArgs fd ⟨[u], kw⟩) ((a, u) :: ko.map fun n => (n, kwVal kw dfl n)) := by
  unfold PySem.bindArgs
  simp only [h1, h2, h3, h4, h5, hd, hk]
  refine PySem.W.Looks.andThen (looks_forIn (fun i => ((a, u) :: kw.take i, [])) (by simp) fun i x e => ?_) ?_
  · have hx : x ∈ kw := List.mem_of_getElem? e
    rw [if_pos (by rw [hin x hx, Bool.or_true])]
    have hnone : List.lookup x.1 ((a, u) :: kw.take i) = none := lookup_no (by
      rw [List.map_cons, List.map_take]
      intro hm
      rcases List.mem_cons.mp hm with q | q
      · exact (List.nodup_cons.mp hnd).1 (List.mem_map.mpr ⟨x, hx, q⟩)
      · have hi := (List.getElem?_eq_some_iff.mp e).1
        obtain ⟨j, hj, ej⟩ := List.getElem_of_mem q
        rw [List.length_take, List.length_map] at hj
        rw [List.getElem_take] at ej
        have n2 := (List.nodup_cons.mp hnd).2
        have := (List.getElem_inj (i := j) (j := i) (xs := kw.map (·.1)) n2 (h₀ := by rw [List.length_map]; omega) (h₁ := by rw [List.length_map]; omega)).mp (by rw [ej, List.getElem_map, (List.getElem?_eq_some_iff.mp e).2])
        omega)
    rw [if_neg (by rw [hnone]; decide)]
    refine .of_pure ?_
    rw [List.take_add_one, e]
    rfl
  rw [List.take_length]
  refine PySem.W.Looks.andThen (a := none) (.of_pure rfl) ?_
  rw [if_neg (by simp)]
  simp only [List.map_nil, List.nil_append, List.length_cons, List.length_nil, Nat.zero_add, Option.getD_none, List.drop_nil, Nat.sub_zero, List.zip_nil_right]
  have ea : (List.lookup a ((a, u) :: kw)) = some u := by simp [List.lookup]
  rw [if_neg (by simp [List.lookup])]
  refine PySem.W.Looks.andThen (a := (a, u) :: kw) (.of_pure (by simp)) ?_
  have na : ∀ n ∈ ko, n ≠ a := fun n hn e => (List.nodup_cons.mp hko).1 (e ▸ hn)
  have look : ∀ (n : Str) (m : List (Str × Value)), n ∈ ko → List.lookup n ((a, u) :: kw ++ m) = (kw.lookup n).or (m.lookup n) := fun n m hn => by
    rw [lookup_app]
    have e : (n == a) = false := by simpa using na n hn
    simp only [List.lookup, e]
  refine PySem.W.Looks.andThen (looks_forIn (fun i => ((a, u) :: kw ++ (ko.take i).filterMap (fun n => if (kw.lookup n).isNone = true then some (n, dfl n) else none), [])) (by simp) fun i n e => ?_) ?_
  · have hi := (List.getElem?_eq_some_iff.mp e).1
    have hn : n ∈ ko := List.mem_of_getElem? e
    have nt : n ∉ ko.take i := fun q => by
      obtain ⟨j, hj, ej⟩ := List.getElem_of_mem q
      rw [List.length_take] at hj
      rw [List.getElem_take] at ej
      have := (List.getElem_inj (i := j) (j := i) (xs := ko) (List.nodup_cons.mp hko).2 (h₀ := by omega) (h₁ := hi)).mp (by rw [ej, (List.getElem?_eq_some_iff.mp e).2])
      omega
    have ex : List.lookup n ((ko.take i).filterMap (fun n => if (kw.lookup n).isNone = true then some (n, dfl n) else none)) = none := lookup_no fun q => by
      obtain ⟨p, hp, ep⟩ := List.mem_map.mp q
      obtain ⟨m, hm, em⟩ := List.mem_filterMap.mp hp
      split at em
      · cases em
        exact nt (ep ▸ hm)
      · cases em
    have el : List.lookup n ((a, u) :: kw ++ (ko.take i).filterMap (fun n => if (kw.lookup n).isNone = true then some (n, dfl n) else none)) = kw.lookup n := by rw [look n _ hn, ex, Option.or_none]
    dsimp only
    rw [el, List.take_add_one, e, List.filterMap_append]
    cases hl : kw.lookup n with
    | none =>
      rw [if_pos (show (none : Option Value).isNone = true from rfl)]
      refine (PySem.W.looks_nsIn X (hD n hn hl)).andThen ?_
      refine .of_pure ?_
      simp [hl]
    | some v =>
      rw [if_neg (by simp)]
      refine .of_pure ?_
      simp [hl]
  rw [List.take_length]
  dsimp only
  rw [if_neg (by simp)]
  refine .of_pure ?_
  congr 1
  have fin : ∀ n ∈ ko, List.lookup n ((a, u) :: kw ++ ko.filterMap (fun n => if (kw.lookup n).isNone = true then some (n, dfl n) else none)) = some (kwVal kw dfl n) := fun n hn => by
    rw [look n _ hn]
    unfold kwVal
    cases hl : kw.lookup n with
    | some v => rfl
    | none =>
      rw [Option.none_or, Option.getD_none]
      have : ∀ l : List Str, n ∈ l → List.lookup n (l.filterMap (fun n => if (kw.lookup n).isNone = true then some (n, dfl n) else none)) = some (dfl n) := by
        intro l
        induction l with
        | nil => intro q; cases q
        | cons m l ih =>
          intro q
          rw [List.filterMap_cons]
          by_cases c : m = n
          · subst c
            simp [hl, List.lookup]
          · have q2 : n ∈ l := by
              rcases List.mem_cons.mp q with z | z
              · exact absurd z.symm c
              · exact z
            have e : (n == m) = false := by simpa using fun z : n = m => c z.symm
            split
            · exact ih q2
            · rename_i b hb
              split at hb
              · cases hb
                simp only [List.lookup, e]
                exact ih q2
              · cases hb
      exact this ko hn
  rw [List.singleton_append, List.filterMap_cons]
  have e0 : List.lookup a ((a, u) :: kw ++ ko.filterMap (fun n => if (kw.lookup n).isNone = true then some (n, dfl n) else none)) = some u := by
    rw [lookup_app, ea]
    rfl
  rw [e0]
  show (a, u) :: _ = _
  congr 1
  have gen : ∀ l : List Str, (∀ n ∈ l, n ∈ ko) → l.filterMap (fun n => Option.map (fun x => (n, x)) (List.lookup n ((a, u) :: kw ++ ko.filterMap (fun n => if (kw.lookup n).isNone = true then some (n, dfl n) else none)))) = l.map fun n => (n, kwVal kw dfl n) := by
    intro l
    induction l with
    | nil => intro _; rfl
    | cons m l ih =>
      intro hm
      rw [List.filterMap_cons, fin m (hm m (List.mem_cons_self ..)), List.map_cons]
      show _ :: _ = _
      rw [ih fun n hn => hm n (List.mem_cons_of_mem _ hn)]
  exact gen ko fun _ h => h
end
theorem lookup_zip {β : Type} {n : Str} : ∀ {ks : List Str} {ws : List β}, ks.length = ws.length → n ∈ ks → (ks.zip ws).lookup n = ws[ks.idxOf n]?
  | [], _, _, h => by cases h
  | k :: ks, [], h, _ => by cases h
  | k :: ks, w :: ws, h, hn => by
    rw [List.zip_cons_cons, List.idxOf_cons]
    simp only [List.lookup]
    by_cases c : n = k
    · subst c
      simp
    · have e1 : (n == k) = false := by simpa using c
      have e2 : (k == n) = false := by simpa using fun z : k = n => c z.symm
      rw [e1, e2]
      simp only [cond_false, Bool.cond_false]
      rw [List.getElem?_cons_succ]
      refine lookup_zip (by simpa using h) ?_
      rcases List.mem_cons.mp hn with z | z
      · exact absurd z c
      · exact z
def selOf (ks msn : List Str) (n : Str) : Nat ⊕ Nat := if n ∈ ks then .inr (ks.idxOf n) else .inl (msn.idxOf n)
def kwOk (a : Str) (ko ks msn : List Str) (sel : List (Nat ⊕ Nat)) : Bool := decide ((a :: ks).Nodup) && decide ((a :: ko).Nodup) && ks.all (fun k => ko.contains k) && decide (sel = ko.map (selOf ks msn)) && ko.all (fun n => decide (n ∈ ks) || decide (n ∈ msn))
theorem kb_kwo {K : PySem.W.Frag} {x qual : Str} {params : Arguments} {body : List Stmt} {scope : Scope} {kws : List (Str × V)} {f : Addr} {fd : FuncData} (F : FunD K x qual params body scope [] kws f fd) (a : Str) (ko ks msn : List Str) (ms : List (Str × V)) (sel : List (Nat ⊕ Nat))
    (h1 : params.posonlyargs = []) (h2 : params.args.map (·.arg) = [a]) (h3 : params.vararg = none) (h4 : params.kwarg = none) (h5 : params.kwonlyargs.map (·.arg) = ko) (hk : kws ≠ []) (hms : ∀ q ∈ ms, q ∈ kws) (hn : ms.map (·.1) = msn) (ok : kwOk a ko ks msn sel = true) :
    ∃ mv : List Value, KBn K fd (a :: ko) 1 ks (fun us ws => us ++ pick sel mv ws) (fun vs zs => vs ++ pick sel (ms.map (·.2)) zs) := by
  unfold kwOk at ok
  simp only [Bool.and_eq_true, decide_eq_true_iff, List.all_eq_true, Bool.or_eq_true] at ok
  obtain ⟨⟨⟨⟨o1, o2⟩, o3⟩, o4⟩, o5⟩ := ok
  obtain ⟨oc, od, dV, kV, doc, pm, an, cdv, ct, osl, rfl, lk, hcd, hD, hK⟩ := F.ex
  rcases hD with ⟨_, rfl⟩ | ⟨e, _⟩
  · rcases hK with e | ⟨D, rfl, hq⟩
    · exact absurd e hk
    · obtain ⟨mv, hl, rk, hks⟩ := kwd_vals (ms := ms) fun q hm => hq q (hms q hm)
      rw [hn] at hks
      have lm : msn.length = mv.length := by rw [← hn, List.length_map, hl]
      refine ⟨mv, ⟨fun s us ws X l1 l2 => BindsTo.of_looks fun M => ?_, fun r1 r2 => r1.append (pick_vals rk r2 sel)⟩⟩
      obtain ⟨u, rfl⟩ : ∃ u, us = [u] := by
        match us, l1 with
        | [u], _ => exact ⟨u, rfl⟩
      have zk : (ks.zip ws).map (·.1) = ks := List.map_fst_zip (by omega)
      have dv : ∀ n ∈ msn, ∃ v, mv[msn.idxOf n]? = some v ∧ PySem.W.nsIn K D n = some (some v) := fun n hm => by
        have hi := List.idxOf_lt_length_iff.mpr hm
        refine ⟨mv[msn.idxOf n]'(by omega), List.getElem?_eq_getElem _, ?_⟩
        refine hks (n, _) (List.mem_of_getElem? (i := msn.idxOf n) ?_)
        rw [List.getElem?_zip_eq_some]
        refine ⟨?_, List.getElem?_eq_getElem _⟩
        rw [List.getElem?_eq_getElem hi, List.getElem_idxOf]
      have lno : ∀ n, n ∉ ks → (ks.zip ws).lookup n = none := fun n h => lookup_no (by rw [zk]; exact h)
      have b := bind_kwo (M := M) X (fd := PySem.W.fnOf x qual params body scope .none (.ref D) doc pm an cdv ct) (u := u) (kw := ks.zip ws) (dfl := fun n => (mv[msn.idxOf n]?).getD .none) h1 h2 h3 h4 h5 rfl rfl (fun p hp => o3 _ (by rw [← zk]; exact List.mem_map.mpr ⟨p, hp, rfl⟩)) (by rw [zk]; exact o1) o2
        (fun n hn hl => by
          have nk : n ∉ ks := fun h => by
            rw [lookup_zip l2.symm h, List.getElem?_eq_getElem (by rw [l2]; exact List.idxOf_lt_length_iff.mpr h)] at hl
            cases hl
          rcases o5 n hn with z | z
          · exact absurd z nk
          · obtain ⟨v, e1, e2⟩ := dv n z
            rw [e2, e1]
            rfl)
      have e : (a, u) :: ko.map (fun n => (n, kwVal (ks.zip ws) (fun n => (mv[msn.idxOf n]?).getD .none) n)) = (a :: ko).zip ([u] ++ pick sel mv ws) := by
        rw [List.singleton_append, List.zip_cons_cons, o4]
        congr 1
        have gen : ∀ l : List Str, (∀ n ∈ l, n ∈ ko) → l.map (fun n => (n, kwVal (ks.zip ws) (fun n => (mv[msn.idxOf n]?).getD .none) n)) = l.zip (pick (l.map (selOf ks msn)) mv ws) := by
          intro l
          induction l with
          | nil => intro _; rfl
          | cons n l ih =>
            intro hm
            have ih' := ih fun m h => hm m (List.mem_cons_of_mem _ h)
            have key : (match selOf ks msn n with | .inl i => mv[i]? | .inr j => ws[j]?) = some (kwVal (ks.zip ws) (fun n => (mv[msn.idxOf n]?).getD .none) n) := by
              unfold selOf kwVal
              by_cases c : n ∈ ks
              · rw [if_pos c, lookup_zip l2.symm c]
                show ws[ks.idxOf n]? = _
                rw [List.getElem?_eq_getElem (by rw [l2]; exact List.idxOf_lt_length_iff.mpr c)]
                rfl
              · rw [if_neg c, lno n c]
                show mv[msn.idxOf n]? = _
                rcases o5 n (hm n (List.mem_cons_self ..)) with z | z
                · exact absurd z c
                · obtain ⟨v, e1, _⟩ := dv n z
                  simp only [Option.getD_none, e1, Option.getD_some]
            have pk : pick ((n :: l).map (selOf ks msn)) mv ws = kwVal (ks.zip ws) (fun n => (mv[msn.idxOf n]?).getD .none) n :: pick (l.map (selOf ks msn)) mv ws := by
              rw [List.map_cons]
              unfold pick
              rw [List.filterMap_cons_some]
              exact key
            rw [List.map_cons, pk, List.zip_cons_cons, ih']
        exact gen ko fun _ h => h
      rw [← e]
      exact b
  · exact absurd rfl e
/-! ### C(k = v, ..), which may raise -/
section
variable {X : Cx} {CX : CXT} {k n : Nat} {f C : Addr} {fd : FuncData} {ps ks : List Str} {sp : Sp} {E : L2.St → XK} {x : Str} {p pos : Pos} {kws : List Keyword} {tk : TA} {g : List Value → List Value → List Value} {gV : List V → List V → List V}
def tMakeKX (C : Addr) (m : Nat) (sp : Sp) (gV : List V → List V → List V) (E : L2.St → XK) (tk : TA) : TE := fun σ H Q => tk σ H fun zs H2 => zs.length = m ∧ ∀ x dx, H2 x = none → H2 dx = none → dx ≠ x →
  sp (gV [.ref x] zs) (upd (upd H2 dx (.own x)) x (.ins C dx [])) (fun v H3 => v = .non ∧ Q (.ref x) H3) (E σ)
theorem run_makeKX {pins : List (Addr × Obj)} {σ : L2.St} {H : Hp} {s : Shared} {Q : VK} {us ws : List Value} {vs zs : List V} (M : Mk X.K C f) (F : FnOk X.prog X.w X.K X.mg X.base CX k f fd ps sp) (hr : Room (k + 1) X.A) (hb : KBn X.K fd ps (n + 1) ks g gV) (hx : PassesAt CX X σ (E σ))
    (I : Inv X pins σ H s) (r : Vals vs us) (rz : Vals zs ws) (l1 : vs.length = n) (l2 : zs.length = ks.length)
    (h : ∀ x dx, H x = none → H dx = none → dx ≠ x → sp (gV (.ref x :: vs) zs) (upd (upd H dx (.own x)) x (.ins C dx [])) (fun v H2 => v = .non ∧ Q (.ref x) H2) (E σ)) :
    wpAny (model X.prog X.w) X.A (call (.ref C) us (ks.zip ws)) (EP X pins σ Q) X.xe s := by
  have hq := h (s.heap.objs.size + 1) s.heap.objs.size (I.hok.fresh (Nat.le_succ _)) (I.hok.fresh (Nat.le_refl _)) (Nat.ne_of_lt (Nat.lt_succ_self _))
  have I2 := Inv.made (C := C) I
  have r1 : Vals (V.ref (s.heap.objs.size + 1) :: vs) (Value.ref (s.heap.objs.size + 1) :: us) := .cons rfl r
  have r2 := hb.rel r1 rz
  have n1 : (Value.ref (s.heap.objs.size + 1) :: us).length = n + 1 := by
    rw [List.length_cons, ← r.length, l1]
  refine wpAny_call (make_map (f := f) I.kIn M.makes M.init (beq_iff_eq.mp M.fn) (codeAny_mono (F.run _ X.stack _ _ ⟨Value.ref (s.heap.objs.size + 1) :: us, ks.zip ws⟩ (g (Value.ref (s.heap.objs.size + 1) :: us) ws) _ _ (E σ) (hr.make C us (ks.zip ws))
    (I2.env0.make C us (ks.zip ws)) (hb.to _ (Value.ref (s.heap.objs.size + 1) :: us) ws I2.kIn n1 (rz.length.symm.trans l2)) r2 hq) fun r s' hq' => ?_))
  cases r with
  | error e => exact hx pins _ _ e s' I2 hq'
  | ok fl =>
    cases fl with
    | ret u =>
      obtain ⟨v, H', I3, rv, ev, q3⟩ := I2.after hq'
      subst ev
      exact ⟨rv, ⟨V.ref (s.heap.objs.size + 1), H', I3, rfl, q3⟩⟩
    | next => exact False.elim hq'
    | brk => exact False.elim hq'
    | cont => exact False.elim hq'
theorem pe_makeKX (M : Mk X.K C f) (F : FnOk X.prog X.w X.K X.mg X.base CX k f fd ps sp) (hr : Room (k + 1) X.A) (hg : Gl X x) (hm : X.mg x = some (.ref C)) (hb : KBn X.K fd ps 1 ks g gV) (hx : ∀ σ, PassesAt CX X σ (E σ)) (hkw : PK X kws tk)
    (hall : (backToKw pos (keywordEach kws X.env)).all (·.1.isSome) = true := by rfl) (hks : (backToKw pos (keywordEach kws X.env)).filterMap (·.1) = ks := by rfl) (hdb : (x == ("__debug__" : Str)) = false := by decide)
    (hpl : ((backTo pos (starEach [] X.env)).any (·.1) || (backToKw pos (keywordEach kws X.env)).any (·.1.isNone)) = false := by rfl) :
    PE X (.Call (.Name x p) [] kws pos) (tMakeKX C ks.length sp gV E tk) := by
  refine ⟨fun pins s σ H Q I h => ?_⟩
  refine wpAny_Call_Name_kw (ld_glob I hg hm ?_ hdb)
  refine PySem.W.callWith_KW0 (h₀ := X.base) I.ok.mod.kin M.kp hall ?_ hpl
  refine thn (hkw.run pos pins s σ H _ I h) fun ws s2 ⟨zs, H2, I2, rz, l2, q2⟩ => ⟨I2.kIn, ?_⟩
  rw [hks]
  exact run_makeKX (n := 0) (us := []) (vs := []) M F hr hb (hx σ) I2 .nil rz rfl l2 q2
end
/-! ### a store of a new field, what is known of the heap behind it -/
theorem stf_go {K : PySem.W.Frag} {H H0 : Hp} {a C dx : Addr} {fs fs' : List (Str × V)} {f : Str} {v : V} {R : Hp → Prop} (e : H a = some (.ins C dx fs)) (fr : ∀ b, b ≠ a → H b = H0 b) (c : Cls K C) (n : NoAttr K C f) (l : fs.length < 1000) (hp : putF f v fs = fs') (q : ∀ H', H' a = some (.ins C dx fs') → (∀ b, b ≠ a → H' b = H0 b) → R H') :
    ∃ (a' C' dx' : Addr) (fs' : List (Str × V)), V.ref a = .ref a' ∧ H a' = some (.ins C' dx' fs') ∧ Cls K C' ∧ NoAttr K C' f ∧ fs'.length < 1000 ∧ R (upd H a' (.ins C' dx' (putF f v fs'))) :=
  setf_go e c n l (q _ (by rw [hp]; exact upd_same) fun b h => (upd_ne h).trans (fr b h))
/-! ### sorted(t), t a tuple of texts -/
section
variable {prog : Program} {w : World} {A : Around} {E : Value → Shared → Prop} {s : Shared}
theorem collect_tup {l : Addr} {vs : List Value} {Q : List Value → Shared → Prop} (hl : s.heap.IsTuple l vs.toArray)
    (h : Q vs { s with heap := (s.heap.push (seqObj "list" #[] 0)).update s.heap.objs.size (Obj.mapSeq (· ++ vs.toArray)) }) (hsz : vs.length ≤ sizeLine) :
    wpAny (model prog w) A (collect (.ref l)) Q E s := by
  obtain ⟨o, ho, hc, n, hd⟩ := id hl
  unfold collect
  refine wpAny_bind (wpAny_runValue (codeAny_builtin entry_proto_collect' ?_))
  show wpAny _ _ (do again (.builtin "list.__iadd__" ⟨[← newList [], .ref l], []⟩)) _ _ s
  refine wpAny_bind (wpAny_newList (wpAny_pure ⟨Code.quiet_builtin _ (by decide +kernel), codeAny_builtin entry_list_iadd' ?_⟩))
  show wpAny _ _ (Builtin.List.listExtendWith (.ref s.heap.objs.size) (.ref l) (.ref s.heap.objs.size)) _ _ { s with heap := s.heap.push (seqObj "list" #[] 0) }
  unfold Builtin.List.listExtendWith
  have ho' : (s.heap.push (seqObj "list" #[] 0)).get? l = some o := Heap.get?_push_of_some _ ho
  refine wpAny_bind (wpAny_typeOf (T := "tuple") ⟨o, ho', hc⟩ ?_)
  have ht : (Value.type "tuple" == Value.type "tuple") = true := by rfl
  rw [if_pos (by rw [ht]; simp)]
  refine wpAny_bind (listItems_at ho' hd ?_)
  refine wpAny_bind (listItems_at (xs := #[]) (n := 0) (Heap.get?_push_size _ rfl) rfl ?_)
  rw [if_neg (by simp)]
  refine wpAny_bind (listUpdate_at (xs := #[]) (n := 0) (Heap.get?_push_size _ rfl) rfl ?_ (Nat.zero_le _) (by show (#[] ++ vs.toArray).size ≤ sizeLine + 1; simp only [Array.size_append, List.size_toArray, List.length_nil]; omega))
  refine wpAny_pure ?_
  show wpAny (model prog w) A (do
      let o ← load s.heap.objs.size
      match o.data with
      | .seq xs _ => pure xs.toList
      | _ => unsupported "internal:collect") Q E { s with heap := (s.heap.push (seqObj "list" #[] 0)).update s.heap.objs.size (Obj.mapSeq (· ++ vs.toArray)) }
  refine wpAny_bind (wpAny_load (get?_update_seq (Heap.get?_push_size _ rfl) _) ?_)
  show wpAny _ _ (pure ((#[] : Array Value) ++ vs.toArray).toList) Q E _
  rw [show ((#[] : Array Value) ++ vs.toArray).toList = vs by simp]
  exact wpAny_pure h
theorem sorted_strs_tup {l : Addr} {vs : List Value} {ss : List Str} {Q : Value → Shared → Prop} (hl : s.heap.IsTuple l vs.toArray) (hS : StrsAre vs ss) (h64 : vs.length < 64)
    (h : ∀ (out : Array Value) (ss' : List Str), StrsAre out.toList ss' → ss'.Perm ss → sortedS ss' = true → Q (.ref (s.heap.objs.size + 1)) { s with heap := sortedAll s.heap vs out }) :
    wpAny (model prog w) A (call (.builtin "sorted") [.ref l]) Q E s := by
  refine Calls.call_function_entry kind_sorted plain_sorted entry_sorted (args_sorted1 _) ?_
  unfold Builtin.«sorted»
  refine wpAny_bind (m := checkCount "sorted" 1 1 _) (wpAny_pure ?_)
  refine wpAny_bind (collect_tup hl ?_ (by rw [sizeLine_eq]; omega))
  refine wpAny_bind (wpAny_newList ?_ (by rw [sizeLine_eq]; omega))
  have hsz : ((s.heap.push (seqObj "list" #[] 0)).update s.heap.objs.size (Obj.mapSeq (· ++ vs.toArray))).objs.size = s.heap.objs.size + 1 := by
    rw [Heap.size_update, size_push']
  have hoL : (((s.heap.push (seqObj "list" #[] 0)).update s.heap.objs.size (Obj.mapSeq (· ++ vs.toArray))).push (seqObj "list" vs.toArray 0)).get? (s.heap.objs.size + 1) = some (seqObj "list" vs.toArray 0) := by
    rw [← hsz]; exact Heap.get?_push_size _ rfl
  show wpAny _ _ _ _ _ { s with heap := ((s.heap.push (seqObj "list" #[] 0)).update s.heap.objs.size (Obj.mapSeq (· ++ vs.toArray))).push (seqObj "list" vs.toArray 0) }
  rw [hsz]
  refine wpAny_bind (wpAny_holding (wpAny_call_entry slot_list_sort ⟨_, hoL, rfl⟩ entry_list_sort (list_sort_treeK strKind_oneLt hoL hS.keysOf (fun v₁ v₂ rest e => keyKind_strs (by rw [← e]; exact hS)) h64 fun st' a1 a2 => ⟨_, rfl, ?_⟩) (args_list_sort _)))
  obtain ⟨ss', h1, h2, h3⟩ := sorted_out_str hS a1 a2
  exact wpAny_pure ⟨_, rfl, h _ ss' h1 h2 h3⟩
end
@[irreducible] def rSrtTS (K : PySem.W.Frag) : List V → Hp → VK → Prop := fun vs H Q => ∃ (a : Addr) (xs : List Str), vs = [V.ref a] ∧ SqT K H a (xs.map V.str) ∧ xs.length < 64 ∧
  ∀ (ys : List Str) (p : Addr), ys.Perm xs → sortedS ys = true → H p = none → Q (.ref p) (upd H p (.lst (ys.map V.str)))
theorem call_srtTS {X : Cx} : CallR X (.builtin "sorted") (rSrtTS X.K) := by
  intro pins s σ H vs us Q I r h
  unfold rSrtTS at h
  obtain ⟨a, xs, rfl, hs, h64, q⟩ := h
  obtain ⟨its, rv, hl, _⟩ := I.tuple hs
  rw [Vals.ref1 r]
  have hlen0 := rv.length
  rw [List.length_map] at hlen0
  refine sorted_strs_tup hl rv.strs (by rw [← hlen0]; exact h64) fun out ys h1 h2 h3 => ?_
  obtain ⟨ep, he'⟩ := PyProof.Rows.sortedAll_at s.heap its out
  have hlen : (ys.map V.str).length ≤ sizeLine := by rw [List.length_map, h2.length_eq]; exact small64 h64
  exact ⟨.ref _, upd H (s.heap.objs.size + 1) (.lst (ys.map V.str)), I.laid (t' := s.toks) (fun _ _ => PyProof.Rows.sortedAll_old) (Nat.le_succ _) ⟨hlen, out.toList, ep, vals_of_strs h1, he'⟩, rfl, q ys _ h2 h3 (I.hok.fresh (Nat.le_succ _))⟩
theorem srtTS_go {K : PySem.W.Frag} {H : Hp} {a : Addr} {xs : List Str} {Q : VK} (hs : SqT K H a (xs.map V.str)) (h64 : xs.length < 64) (q : ∀ (ys : List Str) (p : Addr), ys.Perm xs → sortedS ys = true → H p = none → Q (.ref p) (upd H p (.lst (ys.map V.str)))) : rSrtTS K [.ref a] H Q := by
  unfold rSrtTS
  exact ⟨a, xs, rfl, hs, h64, q⟩
end LB

set_option Elab.async false
set_option linter.all false
set_option maxRecDepth 100000
set_option maxHeartbeats 4000000
/-! terms of a loan -/
namespace LB
open PySem PySem.Spec PyProof.Rows L2
structure TM where
  name : Str
  count : Int
  every : Int
  due : Int
  cal : Str
  rule : Str
  index : Str
  rate : Int
  lowest : Int
  highest : Int
  conv : Str
  mode : Str
  scheme : Str
  free : Int
  ofee : Int
  opart : Int
  pfee : Int
  lfee : Int
  grace : Int
  epart : Int
  emonths : Int
  ord : Addr
  pen : Int
def TM.vals (t : TM) : List V := [.str t.name, .int t.count, .int t.every, .int t.due, .str t.cal, .str t.rule, .str t.index, .int t.rate, .int t.lowest, .int t.highest, .str t.conv, .str t.mode, .str t.scheme, .int t.free, .int t.ofee, .int t.opart, .int t.pfee, .int t.lfee, .int t.grace, .int t.epart, .int t.emonths, .ref t.ord, .int t.pen]
def TM.flds (t : TM) : List (Str × V) := [("name", .str t.name), ("count", .int t.count), ("every", .int t.every), ("due_on", .int t.due), ("calendar", .str t.cal), ("rule", .str t.rule), ("index", .str t.index), ("rate", .int t.rate), ("lowest", .int t.lowest), ("highest", .int t.highest), ("convention", .str t.conv), ("mode", .str t.mode), ("scheme", .str t.scheme), ("free", .int t.free), ("opening_fee", .int t.ofee), ("opening_part", .int t.opart), ("period_fee", .int t.pfee), ("late_fee", .int t.lfee), ("grace", .int t.grace), ("early_part", .int t.epart), ("early_months", .int t.emonths), ("order", .ref t.ord), ("penalty", .int t.pen)]
inductive TErr where
  | bad (z : Str)
  | range (i : Int)
  | name (z : Str)
def isRuleT (z : Str) : Bool := inV (.str z) [.str "none", .str "following", .str "preceding", .str "modified"]
def isModeT (z : Str) : Bool := inV (.str z) [.str "down", .str "up", .str "near", .str "even"]
def isSchemeT (z : Str) : Bool := inV (.str z) [.str "annuity", .str "equal", .str "bullet"]
def isEveryT (i : Int) : Bool := inV (.int i) [.int 1, .int 2, .int 3, .int 4, .int 6, .int 12]
def usualO : List Str := ["fees", "interest", "principal"]
/-- between two bounds, or the error -/
def btw (v a b : Int) (r : Option TErr) : Option TErr := if v < a ∨ b < v then some (.range v) else r
def chargeErr (t : TM) (r : Option TErr) : Option TErr :=
  btw t.ofee 0 1000000000000 (btw t.opart 0 1000 (btw t.pfee 0 1000000000000 (btw t.lfee 0 1000000000000 (btw t.grace 0 90 (btw t.epart 0 1000 (btw t.emonths 0 480 r))))))
def togetherErr (t : TM) : Option TErr :=
  if t.count ≤ t.free then some (.range t.free) else if t.highest < t.lowest then some (.range t.lowest) else if 0 < t.lfee ∧ 28 * t.every ≤ t.grace then some (.range t.lfee) else none
def orE (c : Bool) (e : TErr) (r : Option TErr) : Option TErr := if c = true then r else some e
/-- the error that is due first -/
def termErr (t : TM) (os : List Str) : Option TErr :=
  orE (nameB t.name) (.bad t.name) (btw t.count 1 480 (orE (isEveryT t.every) (.range t.every) (btw t.due 1 31 (orE (t.cal == "" || nameB t.cal) (.bad t.cal) (orE (isRuleT t.rule) (.name t.rule) (orE (t.index == "" || nameB t.index) (.bad t.index)
    (btw t.rate 0 1000000 (btw t.lowest 0 1000000 (btw t.highest 0 1000000 (orE (decide (partsOf t.conv ≠ none)) (.name t.conv) (orE (isModeT t.mode) (.name t.mode) (orE (isSchemeT t.scheme) (.name t.scheme) (btw t.free 0 479 (chargeErr t
      (orE (decide (os.Perm usualO)) (.name "order") (btw t.pen 0 1000000 (togetherErr t)))))))))))))))))
theorem orE_t {c : Bool} {e : TErr} {r : Option TErr} (h : c = true) : orE c e r = r := by unfold orE; rw [if_pos h]
theorem orE_f {c : Bool} {e : TErr} {r : Option TErr} (h : c = false) : orE c e r = some e := by unfold orE; rw [if_neg (by rw [h]; decide)]
theorem btw_t {v a b : Int} {r : Option TErr} (h1 : a ≤ v) (h2 : v ≤ b) : btw v a b r = r := by unfold btw; rw [if_neg (by omega)]
theorem btw_f {v a b : Int} {r : Option TErr} (h : v < a ∨ b < v) : btw v a b r = some (.range v) := by unfold btw; rw [if_pos h]
theorem orE_none {c : Bool} {e : TErr} {r : Option TErr} (h : orE c e r = none) : c = true ∧ r = none := by
  cases c
  · rw [orE_f rfl] at h; cases h
  · exact ⟨rfl, by rwa [orE_t rfl] at h⟩
theorem btw_none {v a b : Int} {r : Option TErr} (h : btw v a b r = none) : (a ≤ v ∧ v ≤ b) ∧ r = none := by
  unfold btw at h
  split at h
  · cases h
  · exact ⟨by omega, h⟩
theorem btw_or {v a b : Int} {x r : Option TErr} : btw v a b (x.or r) = (btw v a b x).or r := by
  unfold btw
  split <;> rfl
theorem charge_or {t : TM} {r : Option TErr} : chargeErr t r = (chargeErr t none).or r := by
  unfold chargeErr
  rw [← btw_or, ← btw_or, ← btw_or, ← btw_or, ← btw_or, ← btw_or, ← btw_or, Option.none_or]
/-- the usual order is sorted, and the one sorted list of its words -/
theorem sorted_usual {ys : List Str} (p : ys.Perm usualO) (s : sortedS ys = true) : ys = usualO := by
  have hl : ys.length = 3 := p.length_eq
  obtain ⟨a, b, c, rfl⟩ : ∃ a b c, ys = [a, b, c] := by
    match ys, hl with
    | [a, b, c], _ => exact ⟨a, b, c, rfl⟩
  have ha := p.mem_iff.mp (List.mem_cons_self (a := a))
  have hb := p.mem_iff.mp (show b ∈ [a, b, c] by simp)
  have hc := p.mem_iff.mp (show c ∈ [a, b, c] by simp)
  have nd : [a, b, c].Nodup := p.nodup_iff.mpr (by decide +kernel)
  unfold usualO at *
  simp only [List.mem_cons, List.not_mem_nil, or_false] at ha hb hc
  rcases ha with rfl | rfl | rfl <;> rcases hb with rfl | rfl | rfl <;> rcases hc with rfl | rfl | rfl
  all_goals first
    | rfl
    | (revert nd; decide +kernel)
    | (revert s; decide +kernel)
theorem usual_iff {ys os : List Str} (p : ys.Perm os) (s : sortedS ys = true) : ys = usualO ↔ os.Perm usualO :=
  ⟨fun e => e ▸ p.symm, fun q => sorted_usual (p.trans q) s⟩
theorem Str.eq_of_map {xs ys : List Str} (h : xs.map V.str = ys.map V.str) : xs = ys := (List.map_inj_right (fun x y e => V.str.inj e)).mp h
theorem sharpS {xs : List Str} : (xs.map V.str).all sharpV = true := by
  rw [List.all_map]
  exact List.all_eq_true.mpr fun _ _ => rfl
theorem toT_go {K : PySem.W.Frag} {H : Hp} {p : Addr} {xs : List V} {Q : VK} (h : SqL K H p xs) (q : ∀ l H', H l = none → Same H H' → H' l = some (.tup xs) → Q (.ref l) H') : rTo K [.ref p] H Q :=
  to_go h fun l nl => q l _ nl (same_new (Same.refl H) nl) upd_same
/-- no error is due: then q -/
def NoErr (r : Option TErr) (q : Prop) : Prop := r = none → q
section
variable {c : Bool} {e : TErr} {r : Option TErr} {q : Prop}
theorem NoErr.t (h : NoErr (orE c e r) q) (k : c = true) : NoErr r q := by rw [orE_t k] at h; exact h
theorem NoErr.bt {v a b : Int} (h : NoErr (btw v a b r) q) (h1 : a ≤ v) (h2 : v ≤ b) : NoErr r q := by rw [btw_t h1 h2] at h; exact h
end
theorem every_sz {i : Int} (h : isEveryT i = true) : Sz 64 i := by
  unfold isEveryT inV at h
  simp [eqV] at h
  exact ⟨by omega⟩
theorem tup_but {K : PySem.W.Frag} {H H' : Hp} {c p C dx : Addr} {fs : List (Str × V)} {xs : List V} (keep : ∀ b o, b ≠ c → H b = some o → H' b = some o) (hc : H c = some (.ins C dx fs)) (h : SqT K H p xs) : SqT K H' p xs := by
  rcases h with h | h
  · rcases h with h | ⟨o, h⟩
    · exact .inl (.inl (keep _ _ (fun e => by rw [e, hc] at h; cases h) h))
    · exact .inl (.inr ⟨o, keep _ _ (fun e => by rw [e, hc] at h; cases h) h⟩)
  · exact .inr h
/-- terms of a loan at c -/
structure TermsAt (K : PySem.W.Frag) (C : Addr) (H : Hp) (c : Addr) (t : TM) (os : List Str) : Prop where
  ins : ∃ dx : Addr, H c = some (.ins C dx t.flds)
  ordAt : SqT K H t.ord (os.map V.str)
  good : termErr t os = none
theorem TermsAt.same {K : PySem.W.Frag} {C : Addr} {H H' : Hp} {c : Addr} {t : TM} {os : List Str} (s : Same H H') (h : TermsAt K C H c t os) : TermsAt K C H' c t os := by
  obtain ⟨⟨dx, i⟩, o, g⟩ := h
  exact ⟨⟨dx, s _ _ i⟩, same_tup s o, g⟩
theorem term_index {t : TM} {os : List Str} (h : termErr t os = none) : t.index.length ≤ 1000000 := by
  unfold termErr at h
  have h1 := (orE_none (orE_none (orE_none (btw_none (orE_none (btw_none (orE_none h).2).2).2).2).2).2).1
  rcases Bool.or_eq_true_iff.mp h1 with e | e
  · rw [eq_of_beq e]; decide +kernel
  · have := (nameB_iff.mp e).2.1; omega
theorem every_bd {i : Int} (h : isEveryT i = true) : 1 ≤ i ∧ i ≤ 12 := by
  unfold isEveryT inV at h
  simp [eqV] at h
  omega
theorem term_rest {t : TM} {os : List Str} (h : termErr t os = none) : 1 ≤ t.count ∧ t.count ≤ 480 ∧ (1 ≤ t.every ∧ t.every ≤ 12) ∧ 1 ≤ t.due ∧ t.due ≤ 31 ∧ t.cal.length ≤ 1000000 ∧ isRuleT t.rule = true := by
  unfold termErr at h
  have a1 := (orE_none h).2
  have a2 := btw_none a1
  have a3 := orE_none a2.2
  have a4 := btw_none a3.2
  have a5 := orE_none a4.2
  have a6 := orE_none a5.2
  refine ⟨a2.1.1, a2.1.2, every_bd a3.1, a4.1.1, a4.1.2, ?_, a6.1⟩
  rcases Bool.or_eq_true_iff.mp a5.1 with e | e
  · rw [eq_of_beq e]; decide +kernel
  · have := (nameB_iff.mp e).2.1; omega
theorem term_name {t : TM} {os : List Str} (h : termErr t os = none) : t.name.length ≤ 1000000 := by
  unfold termErr at h
  have := (nameB_iff.mp (orE_none h).1).2.1
  omega
theorem termErr_ok {t : TM} {os : List Str} (c1 : nameB t.name = true) (c2 : 1 ≤ t.count ∧ t.count ≤ 480) (c3 : isEveryT t.every = true) (c4 : 1 ≤ t.due ∧ t.due ≤ 31) (c5 : (t.cal == "" || nameB t.cal) = true) (c6 : isRuleT t.rule = true) (c7 : (t.index == "" || nameB t.index) = true)
    (c8 : 0 ≤ t.rate ∧ t.rate ≤ 1000000) (c9 : 0 ≤ t.lowest ∧ t.lowest ≤ 1000000) (c10 : 0 ≤ t.highest ∧ t.highest ≤ 1000000) (c11 : partsOf t.conv ≠ none) (c12 : isModeT t.mode = true) (c13 : isSchemeT t.scheme = true) (c14 : 0 ≤ t.free ∧ t.free ≤ 479)
    (c15 : chargeErr t none = none) (c16 : os.Perm usualO) (c17 : 0 ≤ t.pen ∧ t.pen ≤ 1000000) (c18 : togetherErr t = none) : termErr t os = none := by
  unfold termErr
  rw [orE_t c1, btw_t c2.1 c2.2, orE_t c3, btw_t c4.1 c4.2, orE_t c5, orE_t c6, orE_t c7, btw_t c8.1 c8.2, btw_t c9.1 c9.2, btw_t c10.1 c10.2, orE_t (decide_eq_true c11), orE_t c12, orE_t c13, btw_t c14.1 c14.2, charge_or, c15, Option.none_or, orE_t (decide_eq_true c16), btw_t c17.1 c17.2, c18]
end LB

set_option Elab.async false
set_option linter.all false
set_option maxRecDepth 100000
set_option maxHeartbeats 4000000
/-! comprehensions with a filter over any values -/
namespace LB
open PySem PySem.Spec PyProof.Rows L2
section
variable {K : PySem.W.Frag} {a D : Addr} {g : TG} {tt : TT} {te : TE} {vs : List Nat} {σ : L2.St} {H1 : Hp} {Qd : Hp → Prop}
/-- [x for x in xs if p x] -/
theorem lc_filV {xs : List V} (p : V → Bool) (hD : H1 D = none) (hl : SqL K H1 a xs) (hn : xs.length < sizeLine)
    (hs : ∀ x, x ∈ xs → ∀ H (N : Hp → Prop) acc, H D = some (.lst acc) → acc.length < sizeLine → (p x = true → N (upd H D (.lst (acc ++ [x])))) → (p x = false → N H) →
      g x (wipe σ vs) H fun σ2 H2 => wipe σ2 vs = wipe σ vs ∧ tt σ2 H2 fun b H3 => if b = true then te σ2 H3 fun y H4 => ∃ acc, H4 D = some (.lst acc) ∧ acc.length < sizeLine ∧ N (upd H4 D (.lst (acc ++ [y]))) else N H3)
    (hd : Qd (upd H1 D (.lst (xs.filter p)))) :
    ∃ W : Nat → Nat → Hp → Prop, (∃ m, W 0 m (upd H1 D (.lst []))) ∧ ∀ i m H, W i m H →
      ((Itl K a).stop i H ∧ Qd H) ∨ ((Itl K a).go i H ∧ ∃ Nx : Hp → Prop, (∀ H', Nx H' → ∃ m', m' < m ∧ W (i + 1) m' H') ∧ ∀ x H', (Itl K a).yld i H x H' → g x (wipe σ vs) H' fun σ2 H2 => wipe σ2 vs = wipe σ vs ∧ tt σ2 H2 fun b H3 =>
        if b = true then te σ2 H3 fun y H4 => ∃ acc, H4 D = some (.lst acc) ∧ acc.length < sizeLine ∧ Nx (upd H4 D (.lst (acc ++ [y]))) else Nx H3) := by
  refine lc_list (xs := xs) (fun i H => H = upd H1 D (.lst ((xs.take i).filter p))) rfl (fun i H _ e => e ▸ lst_upd hD hl) ?_ ?_
  · rintro i x H hx rfl
    have ht : xs.take (i + 1) = xs.take i ++ [x] := by rw [List.take_add_one, hx]; rfl
    refine hs x (List.mem_of_getElem? hx) _ _ _ upd_same ?_ (fun c => ?_) (fun c => ?_)
    · refine Nat.lt_of_le_of_lt (List.length_filter_le _ _) (Nat.lt_of_le_of_lt ?_ hn)
      rw [List.length_take]
      exact Nat.min_le_right _ _
    · rw [ht, List.filter_append, upd_upd]
      simp [c]
    · rw [ht, List.filter_append]
      simp [c]
  · rintro H rfl
    rw [List.take_length]
    exact hd
end
end LB

set_option Elab.async false
set_option linter.all false
set_option maxRecDepth 100000
set_option maxHeartbeats 4000000
/-! dicts with written keys: the keys a constant list of texts, the values a list beside it; the heap behind a put is a variable -/
namespace LB
open PySem PySem.Spec PyProof.Rows L2
theorem sameZ {H H' : Hp} (s : Same H H') {a : Addr} (h : H' a = none) : H a = none := by
  cases e : H a with
  | none => rfl
  | some o =>
    rw [s _ _ e] at h
    cases h
def zK : List Str → List V → List (Key × V)
  | k :: ks, v :: vs => (Sum.inr k, v) :: zK ks vs
  | _, _ => []
theorem zK_len : ∀ {ks : List Str} {vs : List V}, ks.length = vs.length → (zK ks vs).length = ks.length
  | [], [], _ => rfl
  | _ :: ks, _ :: vs, h => by
    show (zK ks vs).length + 1 = ks.length + 1
    rw [zK_len (by simpa using h)]
theorem zK_app : ∀ {ks : List Str} {vs : List V} {z : Str} {v : V}, ks.length = vs.length → zK (ks ++ [z]) (vs ++ [v]) = zK ks vs ++ [(Sum.inr z, v)]
  | [], [], _, _, _ => rfl
  | _ :: ks, _ :: vs, z, v, h => by
    show _ :: zK (ks ++ [z]) (vs ++ [v]) = _ :: (zK ks vs ++ _)
    rw [zK_app (by simpa using h)]
theorem zK_val : ∀ {ks : List Str} {vs : List V} {z : Str} {i : Nat} {v : V}, ks.Nodup → ks[i]? = some z → vs[i]? = some v → valV (zK ks vs) (Sum.inr z) = some v
  | [], _, _, _, _, _, h, _ => by cases h
  | k :: ks, [], z, i, v, _, _, h => by cases h
  | k :: ks, w :: vs, z, 0, v, _, h, hv => by
    cases h
    cases hv
    show valV ((Sum.inr k, _) :: zK ks vs) (Sum.inr k) = some _
    rw [valV_pos rfl]
  | k :: ks, w :: vs, z, i + 1, v, nd, h, hv => by
    have h1 := List.nodup_cons.mp nd
    have hm : z ∈ ks := List.mem_of_getElem? (show ks[i]? = some z from h)
    show valV ((Sum.inr k, w) :: zK ks vs) (Sum.inr z) = some v
    rw [valV_neg fun q => h1.1 (by rw [show k = z from Sum.inr.inj q]; exact hm)]
    exact zK_val h1.2 h hv
theorem zK_none : ∀ {ks : List Str} {vs : List V} {z : Str}, ks.length = vs.length → ks.contains z = false → (zK ks vs).any (fun kv => decide (kv.1 = Sum.inr z)) = false
  | [], [], _, _, _ => rfl
  | k :: ks, w :: vs, z, h, hc => by
    rw [List.contains_cons, Bool.or_eq_false_iff] at hc
    show (decide ((Sum.inr k : Key) = Sum.inr z) || (zK ks vs).any _) = false
    rw [zK_none (by simpa using h) hc.2, Bool.or_false, decide_eq_false]
    intro q
    have : k = z := Sum.inr.inj q
    subst this
    simp at hc
theorem zK_set : ∀ {ks : List Str} {vs : List V} {z : Str} {i : Nat} {v : V}, ks.length = vs.length → ks.Nodup → ks[i]? = some z → (zK ks vs).map (fun kv => if kv.1 = Sum.inr z then (kv.1, v) else kv) = zK ks (vs.set i v)
  | [], [], _, _, _, _, _, h => by cases h
  | k :: ks, w :: vs, z, 0, v, h, nd, hz => by
    cases hz
    have h1 := List.nodup_cons.mp nd
    show (if (Sum.inr k : Key) = Sum.inr k then ((Sum.inr k : Key), v) else _) :: (zK ks vs).map _ = (Sum.inr k, v) :: zK ks vs
    rw [if_pos rfl]
    congr 1
    have : ∀ {ks : List Str} {vs : List V}, k ∉ ks → (zK ks vs).map (fun kv => if kv.1 = Sum.inr k then (kv.1, v) else kv) = zK ks vs := by
      intro ks
      induction ks with
      | nil => intro vs _; cases vs <;> rfl
      | cons a l ih =>
        intro vs hk
        cases vs with
        | nil => rfl
        | cons b m =>
          show (if (Sum.inr a : Key) = Sum.inr k then ((Sum.inr a : Key), v) else (Sum.inr a, b)) :: (zK l m).map _ = (Sum.inr a, b) :: zK l m
          rw [if_neg fun q => hk (by rw [Sum.inr.inj q]; exact List.mem_cons_self), ih fun z => hk (List.mem_cons_of_mem _ z)]
    exact this h1.1
  | k :: ks, w :: vs, z, i + 1, v, h, nd, hz => by
    have h1 := List.nodup_cons.mp nd
    have hm : z ∈ ks := List.mem_of_getElem? (show ks[i]? = some z from hz)
    show (if (Sum.inr k : Key) = Sum.inr z then ((Sum.inr k : Key), v) else (Sum.inr k, w)) :: (zK ks vs).map _ = (Sum.inr k, w) :: zK ks (vs.set i v)
    rw [if_neg fun q => h1.1 (by rw [Sum.inr.inj q]; exact hm), zK_set (by simpa using h) h1.2 hz]
section
variable {H0 H : Hp} {p : Addr} {ks : List Str} {vs : List V} {z : Str} {v : V} {i : Nat}
/-- d[z] = v, z a new key -/
theorem dputZ {R : Hp → Prop} (s : Same H0 H) (np : H0 p = none) (e : H p = some (.dK (zK ks vs))) (hl : ks.length = vs.length) (hb : ks.length < 1000) (hn : ks.contains z = false)
    (q : ∀ H', Same H0 H' → (∀ b, b ≠ p → H' b = H b) → H' p = some (.dK (zK (ks ++ [z]) (vs ++ [v]))) → R H') : ∃ a H', V.ref p = .ref a ∧ DPut H a (.str z) v H' ∧ R H' := by
  refine dputS e (by rw [zK_len hl, sizeLine_eq]; omega) ?_
  have e2 : putK (zK ks vs) (Sum.inr z) v = zK (ks ++ [z]) (vs ++ [v]) := by
    unfold putK
    rw [if_neg (by rw [zK_none hl hn]; exact Bool.false_ne_true), zK_app hl]
  rw [e2]
  exact q _ (same_set s np) (fun _ hb => upd_ne hb) upd_same
/-- d[z] = v, z the key at place i -/
theorem dsetZ {R : Hp → Prop} (i : Nat) (s : Same H0 H) (np : H0 p = none) (e : H p = some (.dK (zK ks vs))) (hl : ks.length = vs.length) (hb : ks.length < 1000) (hn : (decide ks.Nodup && decide (ks[i]? = some z)) = true)
    (q : ∀ H', Same H0 H' → (∀ b, b ≠ p → H' b = H b) → H' p = some (.dK (zK ks (vs.set i v))) → R H') : ∃ a H', V.ref p = .ref a ∧ DPut H a (.str z) v H' ∧ R H' := by
  rw [Bool.and_eq_true, decide_eq_true_eq, decide_eq_true_eq] at hn
  refine dputS e (by rw [zK_len hl, sizeLine_eq]; omega) ?_
  have hi : i < ks.length := (List.getElem?_eq_some_iff.mp hn.2).1
  have e2 : putK (zK ks vs) (Sum.inr z) v = zK ks (vs.set i v) := by
    unfold putK
    rw [if_pos, zK_set hl hn.1 hn.2]
    rw [valV_any]
    rw [zK_val (v := vs[i]'(by omega)) hn.1 hn.2 (List.getElem?_eq_getElem (by omega))]
    rfl
  rw [e2]
  exact q _ (same_set s np) (fun _ hb => upd_ne hb) upd_same
/-- d[z], z the key at place i -/
theorem dgetZ {R : Addr → V → Prop} (i : Nat) (e : H p = some (.dK (zK ks vs))) (hn : (decide ks.Nodup && decide (ks[i]? = some z)) = true) (hv : vs[i]? = some v) (q : R p v) : ∃ a v', V.ref p = .ref a ∧ DGet H a (.str z) (some v') ∧ R a v' := by
  rw [Bool.and_eq_true, decide_eq_true_eq, decide_eq_true_eq] at hn
  exact dgetS e (zK_val hn.1 hn.2 hv) q
end
/-- the names of the terms -/
def keysL : List Str := ["name", "count", "every", "due_on", "calendar", "rule", "index", "rate", "lowest", "highest", "convention", "mode", "scheme", "free", "opening_fee", "opening_part", "period_fee", "late_fee", "grace", "early_part", "early_months", "order", "penalty"]
theorem keysL_nd : keysL.Nodup := by decide +kernel
section
variable {H0 H : Hp} {p : Addr} {n : Nat} {vs : List V} {z : Str} {v : V}
theorem keysL_len (h : n ≤ 23) : (keysL.take n).length = n := by
  rw [List.length_take]
  show min n 23 = n
  omega
theorem keysL_at {i : Nat} (hi : i < n) (hz : keysL[i]? = some z) : (keysL.take n)[i]? = some z := by
  rw [List.getElem?_take, if_pos hi]
  exact hz
theorem keysL_take : (keysL.take n).Nodup := keysL_nd.sublist (List.take_sublist _ _)
theorem dputL {R : Hp → Prop} (n : Nat) (s : Same H0 H) (np : H0 p = none) (e : H p = some (.dK (zK (keysL.take n) vs))) (hl : vs.length = n) (hn : n < 23) (hz : keysL[n]? = some z)
    (q : ∀ H', Same H0 H' → (∀ b, b ≠ p → H' b = H b) → H' p = some (.dK (zK (keysL.take (n + 1)) (vs ++ [v]))) → R H') : ∃ a H', V.ref p = .ref a ∧ DPut H a (.str z) v H' ∧ R H' := by
  have e1 : keysL.take (n + 1) = keysL.take n ++ [z] := by rw [List.take_add_one, hz]; rfl
  have hc : (keysL.take n).contains z = false := by
    have nd : (keysL.take (n + 1)).Nodup := keysL_take
    rw [e1, List.nodup_append] at nd
    rw [Bool.eq_false_iff]
    intro c
    exact nd.2.2 z (by simpa using c) z (List.mem_singleton.mpr rfl) rfl
  rw [e1] at q
  exact dputZ s np e (by rw [keysL_len (by omega), hl]) (by rw [keysL_len (by omega)]; omega) hc q
theorem dsetL {R : Hp → Prop} (i n : Nat) (s : Same H0 H) (np : H0 p = none) (e : H p = some (.dK (zK (keysL.take n) vs))) (hl : vs.length = n) (hn : n ≤ 23) (hi : i < n) (hz : keysL[i]? = some z)
    (q : ∀ H', Same H0 H' → (∀ b, b ≠ p → H' b = H b) → H' p = some (.dK (zK (keysL.take n) (vs.set i v))) → R H') : ∃ a H', V.ref p = .ref a ∧ DPut H a (.str z) v H' ∧ R H' :=
  dsetZ i s np e (by rw [keysL_len hn, hl]) (by rw [keysL_len hn]; omega) (by rw [Bool.and_eq_true, decide_eq_true_eq, decide_eq_true_eq]; exact ⟨keysL_take, keysL_at hi hz⟩) q
theorem dgetL {R : Addr → V → Prop} (i n : Nat) (e : H p = some (.dK (zK (keysL.take n) vs))) (hi : i < n) (hz : keysL[i]? = some z) (hv : vs[i]? = some v) (q : R p v) : ∃ a v', V.ref p = .ref a ∧ DGet H a (.str z) (some v') ∧ R a v' :=
  dgetZ i e (by rw [Bool.and_eq_true, decide_eq_true_eq, decide_eq_true_eq]; exact ⟨keysL_take, keysL_at hi hz⟩) hv q
end
/-- terms that are given in a dict -/
structure TermD (H : Hp) (p : Addr) (t : TM) (os : List Str) : Prop where
  at_ : H p = some (.dK (zK keysL t.vals))
  ord : H t.ord = some (.tup (os.map V.str))
  good : termErr t os = none
  cal : t.cal.length ≤ 1000000
  rule : t.rule.length ≤ 1000000
  conv : t.conv.length ≤ 1000000
  mode : t.mode.length ≤ 1000000
  scheme : t.scheme.length ≤ 1000000
  few : os.length ≤ 60
  oks : os.all okS = true
theorem TermD.same {H H' : Hp} {p : Addr} {t : TM} {os : List Str} (g : TermD H p t os) (s : Same H H') : TermD H' p t os :=
  ⟨s _ _ g.at_, s _ _ g.ord, g.good, g.cal, g.rule, g.conv, g.mode, g.scheme, g.few, g.oks⟩
theorem TermD.get {H : Hp} {p : Addr} {t : TM} {os : List Str} {z : Str} {v : V} {R : Addr → V → Prop} (g : TermD H p t os) (i : Nat) (hz : keysL[i]? = some z) (hv : t.vals[i]? = some v) (q : R p v) : ∃ a v', V.ref p = .ref a ∧ DGet H a (.str z) (some v') ∧ R a v' :=
  dgetZ i g.at_ (by rw [Bool.and_eq_true, decide_eq_true_eq, decide_eq_true_eq]; exact ⟨keysL_nd, hz⟩) hv q
end LB

set_option Elab.async false
set_option linter.all false
set_option maxRecDepth 100000
set_option maxHeartbeats 4000000
/-! terms compared -/
namespace LB
open PySem PySem.Spec PyProof.Rows L2
def TM.pre (t : TM) : List V := [.str t.name, .int t.count, .int t.every, .int t.due, .str t.cal, .str t.rule, .str t.index, .int t.rate, .int t.lowest, .int t.highest, .str t.conv, .str t.mode, .str t.scheme, .int t.free, .int t.ofee, .int t.opart, .int t.pfee, .int t.lfee, .int t.grace, .int t.epart, .int t.emonths]
theorem TM.vals_eq (t : TM) : t.vals = t.pre ++ [.ref t.ord, .int t.pen] := rfl
def termEq (t : TM) (os : List Str) (t' : TM) (os' : List Str) : Bool := eqL t.pre t'.pre && (eqL (os.map V.str) (os'.map V.str) && decide (t.pen = t'.pen))
theorem inW {x : Str} : ∀ {l : List Str}, inV (.str x) (l.map V.str) = true → x ∈ l
  | [], h => by cases h
  | a :: l, h => by
    have h : ((a == x) || inV (.str x) (l.map V.str)) = true := h
    rcases Bool.or_eq_true_iff.mp h with c | c
    · rw [eq_of_beq c]
      exact List.mem_cons_self
    · exact List.mem_cons_of_mem _ (inW c)
theorem okS_in {x : Str} {l : List Str} (h : x ∈ l) (k : l.all okS = true) : okS x = true := List.all_eq_true.mp k x h
theorem okS_name {z : Str} (h : nameB z = true) : okS z = true := by
  have h4 := (nameB_iff.mp h).2.2.2
  unfold okS
  rw [List.all_eq_true]
  intro c hc
  have := h4 c hc
  have hb : c < 128 := by
    unfold lowC digC at this
    simp only [Bool.or_eq_true, Bool.and_eq_true, decide_eq_true_eq] at this
    omega
  exact Nat.ble_eq.mpr (by omega)
theorem okS_opt {z : Str} (h : (z == "" || nameB z) = true) : okS z = true := by
  rcases Bool.or_eq_true_iff.mp h with e | e
  · rw [eq_of_beq e]; decide +kernel
  · exact okS_name e
/-- what holds of good terms -/
structure GoodT (t : TM) : Prop where
  name : nameB t.name = true
  count : 1 ≤ t.count ∧ t.count ≤ 480
  every : isEveryT t.every = true
  due : 1 ≤ t.due ∧ t.due ≤ 31
  cal : (t.cal == "" || nameB t.cal) = true
  rule : t.rule ∈ (["none", "following", "preceding", "modified"] : List Str)
  index : (t.index == "" || nameB t.index) = true
  rate : 0 ≤ t.rate ∧ t.rate ≤ 1000000
  lowest : 0 ≤ t.lowest ∧ t.lowest ≤ 1000000
  highest : 0 ≤ t.highest ∧ t.highest ≤ 1000000
  conv : t.conv ∈ (["actual/365", "actual/360", "30/360", "actual/actual"] : List Str)
  mode : t.mode ∈ (["down", "up", "near", "even"] : List Str)
  scheme : t.scheme ∈ (["annuity", "equal", "bullet"] : List Str)
  free : 0 ≤ t.free ∧ t.free ≤ 479
  ofee : 0 ≤ t.ofee ∧ t.ofee ≤ 1000000000000
  opart : 0 ≤ t.opart ∧ t.opart ≤ 1000
  pfee : 0 ≤ t.pfee ∧ t.pfee ≤ 1000000000000
  lfee : 0 ≤ t.lfee ∧ t.lfee ≤ 1000000000000
  grace : 0 ≤ t.grace ∧ t.grace ≤ 90
  epart : 0 ≤ t.epart ∧ t.epart ≤ 1000
  emonths : 0 ≤ t.emonths ∧ t.emonths ≤ 480
  pen : 0 ≤ t.pen ∧ t.pen ≤ 1000000
  free2 : t.free < t.count
  bounds : t.lowest ≤ t.highest
  late : 0 < t.lfee → t.grace < 28 * t.every
theorem btw_b {v a b : Int} {r : Option TErr} (h : btw v a b r = none) : (a ≤ v ∧ v ≤ b) ∧ r = none := by
  unfold btw at h
  split at h
  · cases h
  · exact ⟨by omega, h⟩
theorem good_of {t : TM} {os : List Str} (h : termErr t os = none) : GoodT t ∧ os.Perm usualO := by
  unfold termErr at h
  obtain ⟨c1, h⟩ := orE_none h
  obtain ⟨c2, h⟩ := btw_b h
  obtain ⟨c3, h⟩ := orE_none h
  obtain ⟨c4, h⟩ := btw_b h
  obtain ⟨c5, h⟩ := orE_none h
  obtain ⟨c6, h⟩ := orE_none h
  obtain ⟨c7, h⟩ := orE_none h
  obtain ⟨c8, h⟩ := btw_b h
  obtain ⟨c9, h⟩ := btw_b h
  obtain ⟨c10, h⟩ := btw_b h
  obtain ⟨c11, h⟩ := orE_none h
  obtain ⟨c12, h⟩ := orE_none h
  obtain ⟨c13, h⟩ := orE_none h
  obtain ⟨c14, h⟩ := btw_b h
  unfold chargeErr at h
  obtain ⟨c15, h⟩ := btw_b h
  obtain ⟨c16, h⟩ := btw_b h
  obtain ⟨c17, h⟩ := btw_b h
  obtain ⟨c18, h⟩ := btw_b h
  obtain ⟨c19, h⟩ := btw_b h
  obtain ⟨c20, h⟩ := btw_b h
  obtain ⟨c21, h⟩ := btw_b h
  obtain ⟨c22, h⟩ := orE_none h
  obtain ⟨c23, h⟩ := btw_b h
  unfold togetherErr at h
  split at h
  · cases h
  split at h
  · cases h
  split at h
  · cases h
  rename_i k1 k2 k3
  refine ⟨⟨c1, c2, c3, c4, c5, inW (l := ["none", "following", "preceding", "modified"]) c6, c7, c8, c9, c10, ?_, inW (l := ["down", "up", "near", "even"]) c12, inW (l := ["annuity", "equal", "bullet"]) c13, c14, c15, c16, c17, c18, c19, c20, c21, c23, by omega, by omega, fun z => by omega⟩, of_decide_eq_true c22⟩
  have c11 := of_decide_eq_true c11
  unfold partsOf at c11
  simp only [List.mem_cons, List.not_mem_nil, or_false]
  split at c11
  · exact .inl (by assumption)
  split at c11
  · exact .inr (.inl (by assumption))
  split at c11
  · exact .inr (.inr (.inl (by assumption)))
  split at c11
  · exact .inr (.inr (.inr (by assumption)))
  · exact absurd rfl c11
theorem GoodT.flat {t : TM} (g : GoodT t) : t.pre.all flatS = true := by
  have h1 := okS_name g.name
  have h2 := okS_opt g.cal
  have h3 := okS_in g.rule (by decide +kernel)
  have h4 := okS_opt g.index
  have h5 := okS_in g.conv (by decide +kernel)
  have h6 := okS_in g.mode (by decide +kernel)
  have h7 := okS_in g.scheme (by decide +kernel)
  simp only [TM.pre, List.all_cons, List.all_nil, flatS, h1, h2, h3, h4, h5, h6, h7, Bool.and_self]
theorem eqvAll_app : ∀ {a a' b b' : List PyData}, a.length = a'.length → PyData.eqvAll (a ++ b) (a' ++ b') = (PyData.eqvAll a a' && PyData.eqvAll b b')
  | [], [], _, _, _ => by simp only [List.nil_append, PyData.eqvAll, Bool.true_and]
  | x :: a, y :: a', b, b', h => by
    simp only [List.cons_append, PyData.eqvAll]
    rw [eqvAll_app (by simpa using h), Bool.and_assoc]
theorem dpAll_app {K : PySem.W.Frag} {H : Hp} : ∀ {a b : List V} {d e : List PyData}, DpAll K H a d → DpAll K H b e → DpAll K H (a ++ b) (d ++ e)
  | [], _, _, _, .nil, h => h
  | _ :: _, _, _, _, .cons x y, h => .cons x (dpAll_app y h)
/-- terms as data -/
def TM.data (t : TM) (os : List Str) : PyData := .tuple (t.pre.map pd ++ [.tuple ((os.map V.str).map pd), .int t.pen])
section
variable {K : PySem.W.Frag} {H : Hp} {a b : Addr} {t t' : TM} {os os' : List Str} {Q : VK}
theorem dp_terms (h : SqT K H a t.vals) (ho : SqT K H t.ord (os.map V.str)) (g : GoodT t) (fo : os.all okS = true) : Dp K H (.ref a) (t.data os) := by
  have f2 : (os.map V.str).all flatS = true := by rw [List.all_map]; exact fo
  exact .tup h (dpAll_app (dpAll_pd g.flat) (.cons (.tup ho (dpAll_pd f2)) (.cons (.int _) .nil)))
theorem canLay_app : ∀ {a b : List PyData}, PyData.canLayAll0 (a ++ b) = (PyData.canLayAll0 a && PyData.canLayAll0 b)
  | [], b => by simp only [List.nil_append, PyData.canLayAll0, Bool.true_and]
  | x :: a, b => by simp only [List.cons_append, PyData.canLayAll0, canLay_app, Bool.and_assoc]
theorem depth_app : ∀ {a b : List PyData}, PyData.depthAll (a ++ b) = max (PyData.depthAll a) (PyData.depthAll b)
  | [], b => by simp only [List.nil_append, PyData.depthAll, Nat.zero_max]
  | x :: a, b => by simp only [List.cons_append, PyData.depthAll, depth_app]; omega
theorem shaped_terms (g : GoodT t) (fo : os.all okS = true) : SeqAt.shaped (t.data os) = true := by
  have f2 : (os.map V.str).all flatS = true := by rw [List.all_map]; exact fo
  have h1 := layAll_pd g.flat
  have h2 := layAll_pd f2
  unfold SeqAt.shaped TM.data
  simp only [PyData.canLay0, PyData.depth, canLay_app, depth_app, PyData.canLayAll0, PyData.depthAll, h1.1, h1.2, h2.1, h2.2]
  decide
theorem eqv_terms (g : GoodT t) (g' : GoodT t') (fo : os.all okS = true) (fo' : os'.all okS = true) : PyData.eqv (t.data os) (t'.data os') = termEq t os t' os' := by
  have f2 : (os.map V.str).all flatS = true := by rw [List.all_map]; exact fo
  have f2' : (os'.map V.str).all flatS = true := by rw [List.all_map]; exact fo'
  unfold TM.data termEq
  rw [PyData.eqv, eqvAll_app (by rw [List.length_map, List.length_map]; rfl), eqvAll_pd g.flat g'.flat]
  simp only [PyData.eqvAll, PyData.eqv, eqvAll_pd f2 f2', Bool.and_true]
  rfl
theorem eqD_terms (h : SqT K H a t.vals) (h' : SqT K H b t'.vals) (ho : SqT K H t.ord (os.map V.str)) (ho' : SqT K H t'.ord (os'.map V.str)) (g : GoodT t) (g' : GoodT t') (fo : os.all okS = true) (fo' : os'.all okS = true)
    (q : Q (.bl (termEq t os t' os')) H) : rEqD K (.ref a) (.ref b) H Q := by
  refine ⟨_, _, dp_terms h ho g fo, dp_terms h' ho' g' fo', shaped_terms g fo, shaped_terms g' fo', ?_⟩
  rw [eqv_terms g g' fo fo']
  exact q
end
theorem kindsT {t : TM} (g : GoodT t) {i : Nat} {z : Str} {v : V} (hz : keysL[i]? = some z) (hv : t.vals[i]? = some v) : (∃ s, v = .str s ∧ okS s = true) ∨ (i = 21 ∧ z = "order" ∧ v = .ref t.ord) ∨ (∃ n, v = .int n ∧ z ≠ "order") := by
  have hi : i < 23 := (List.getElem?_eq_some_iff.mp hz).1
  have h : i = 0 ∨ i = 1 ∨ i = 2 ∨ i = 3 ∨ i = 4 ∨ i = 5 ∨ i = 6 ∨ i = 7 ∨ i = 8 ∨ i = 9 ∨ i = 10 ∨ i = 11 ∨ i = 12 ∨ i = 13 ∨ i = 14 ∨ i = 15 ∨ i = 16 ∨ i = 17 ∨ i = 18 ∨ i = 19 ∨ i = 20 ∨ i = 21 ∨ i = 22 := by omega
  rcases h with rfl | rfl | rfl | rfl | rfl | rfl | rfl | rfl | rfl | rfl | rfl | rfl | rfl | rfl | rfl | rfl | rfl | rfl | rfl | rfl | rfl | rfl | rfl
  · cases hv
    exact .inl ⟨_, rfl, okS_name g.name⟩
  · cases hv
    cases hz
    exact .inr (.inr ⟨_, rfl, by decide +kernel⟩)
  · cases hv
    cases hz
    exact .inr (.inr ⟨_, rfl, by decide +kernel⟩)
  · cases hv
    cases hz
    exact .inr (.inr ⟨_, rfl, by decide +kernel⟩)
  · cases hv
    exact .inl ⟨_, rfl, okS_opt g.cal⟩
  · cases hv
    exact .inl ⟨_, rfl, okS_in g.rule (by decide +kernel)⟩
  · cases hv
    exact .inl ⟨_, rfl, okS_opt g.index⟩
  · cases hv
    cases hz
    exact .inr (.inr ⟨_, rfl, by decide +kernel⟩)
  · cases hv
    cases hz
    exact .inr (.inr ⟨_, rfl, by decide +kernel⟩)
  · cases hv
    cases hz
    exact .inr (.inr ⟨_, rfl, by decide +kernel⟩)
  · cases hv
    exact .inl ⟨_, rfl, okS_in g.conv (by decide +kernel)⟩
  · cases hv
    exact .inl ⟨_, rfl, okS_in g.mode (by decide +kernel)⟩
  · cases hv
    exact .inl ⟨_, rfl, okS_in g.scheme (by decide +kernel)⟩
  · cases hv
    cases hz
    exact .inr (.inr ⟨_, rfl, by decide +kernel⟩)
  · cases hv
    cases hz
    exact .inr (.inr ⟨_, rfl, by decide +kernel⟩)
  · cases hv
    cases hz
    exact .inr (.inr ⟨_, rfl, by decide +kernel⟩)
  · cases hv
    cases hz
    exact .inr (.inr ⟨_, rfl, by decide +kernel⟩)
  · cases hv
    cases hz
    exact .inr (.inr ⟨_, rfl, by decide +kernel⟩)
  · cases hv
    cases hz
    exact .inr (.inr ⟨_, rfl, by decide +kernel⟩)
  · cases hv
    cases hz
    exact .inr (.inr ⟨_, rfl, by decide +kernel⟩)
  · cases hv
    cases hz
    exact .inr (.inr ⟨_, rfl, by decide +kernel⟩)
  · cases hv
    cases hz
    exact .inr (.inl ⟨rfl, rfl, rfl⟩)
  · cases hv
    cases hz
    exact .inr (.inr ⟨_, rfl, by decide +kernel⟩)
section
variable {K : PySem.W.Frag} {H : Hp} {Q : VK}
theorem neD_flat {x : V} (f : flatS x = true) (q : Q (.bl false) H) : rNeD K x x H Q := by
  have h1 := lay_pd f
  have sh : SeqAt.shaped (pd x) = true := by
    unfold SeqAt.shaped
    rw [h1.1, h1.2]
    rfl
  refine ⟨_, _, dp_pd f, dp_pd f, sh, sh, ?_⟩
  rw [eqv_pd f f]
  have := eqL_self (xs := [x]) (by simp [f])
  have e : eqV x x = true := by
    unfold eqL at this
    exact (Bool.and_eq_true_iff.mp this).1
  rw [e]
  exact q
end
theorem inW_of {x : Str} : ∀ {l : List Str}, x ∈ l → inV (.str x) (l.map V.str) = true
  | a :: l, h => by
    show ((a == x) || inV (.str x) (l.map V.str)) = true
    rcases List.mem_cons.mp h with c | c
    · rw [c, beq_self_eq_true, Bool.true_or]
    · rw [inW_of c, Bool.or_true]
theorem parts_in {z : Str} (h : z ∈ (["actual/365", "actual/360", "30/360", "actual/actual"] : List Str)) : partsOf z ≠ none := by
  simp only [List.mem_cons, List.not_mem_nil, or_false] at h
  rcases h with rfl | rfl | rfl | rfl <;> decide +kernel
theorem good_to {t : TM} {os : List Str} (g : GoodT t) (ho : os.Perm usualO) : termErr t os = none := by
  refine termErr_ok g.name g.count g.every g.due g.cal (inW_of (l := ["none", "following", "preceding", "modified"]) g.rule) g.index g.rate g.lowest g.highest (parts_in g.conv) (inW_of (l := ["down", "up", "near", "even"]) g.mode) (inW_of (l := ["annuity", "equal", "bullet"]) g.scheme) g.free ?_ ho g.pen ?_
  · unfold chargeErr
    rw [btw_t g.ofee.1 g.ofee.2, btw_t g.opart.1 g.opart.2, btw_t g.pfee.1 g.pfee.2, btw_t g.lfee.1 g.lfee.2, btw_t g.grace.1 g.grace.2, btw_t g.epart.1 g.epart.2, btw_t g.emonths.1 g.emonths.2]
  · unfold togetherErr
    have h1 := g.free2
    have h2 := g.bounds
    have h3 := g.late
    rw [if_neg (by omega), if_neg (by omega), if_neg (fun z => by have := h3 z.1; omega)]
theorem szB (c : Bool) : Sz 2 (if c = true then (1 : Int) else 0) := by
  cases c
  · exact ⟨by decide⟩
  · exact ⟨by decide⟩
theorem iteBb (c : Bool) : (if c = true then (1 : Int) else 0) = 0 ∨ (if c = true then (1 : Int) else 0) = 1 := by
  cases c
  · exact .inl rfl
  · exact .inr rfl
example {t : TM} (g : GoodT t) : GoodT { t with count := 5, free := 0 } := { g with count := by show 1 ≤ (5 : Int) ∧ (5 : Int) ≤ 480; omega, free := by show 0 ≤ (0 : Int) ∧ (0 : Int) ≤ 479; omega, free2 := by show (0 : Int) < 5; omega }
/-- the strings of good terms are short -/
structure ShortT (t : TM) : Prop where
  cal : t.cal.length ≤ 1000000
  rule : t.rule.length ≤ 1000000
  conv : t.conv.length ≤ 1000000
  mode : t.mode.length ≤ 1000000
  scheme : t.scheme.length ≤ 1000000
theorem len_in {x : Str} {l : List Str} (h : x ∈ l) (k : l.all (fun z => decide (z.length ≤ 1000000)) = true) : x.length ≤ 1000000 := of_decide_eq_true (List.all_eq_true.mp k x h)
theorem GoodT.short {t : TM} (g : GoodT t) : ShortT t := by
  refine ⟨?_, len_in g.rule (by decide +kernel), len_in g.conv (by decide +kernel), len_in g.mode (by decide +kernel), len_in g.scheme (by decide +kernel)⟩
  rcases Bool.or_eq_true_iff.mp g.cal with e | e
  · rw [eq_of_beq e]; decide +kernel
  · have := (nameB_iff.mp e).2.1
    omega
theorem ord_few {os : List Str} (h : os.Perm usualO) : os.length ≤ 60 ∧ os.all okS = true := by
  refine ⟨by rw [h.length_eq]; decide, ?_⟩
  rw [List.all_eq_true]
  intro x hx
  have : usualO.all okS = true := by decide +kernel
  exact List.all_eq_true.mp this x (h.mem_iff.mp hx)
theorem termD_of {H : Hp} {p : Addr} {t : TM} {os : List Str} (e : H p = some (.dK (zK keysL t.vals))) (o : H t.ord = some (.tup (os.map V.str))) (g : GoodT t) (ho : os.Perm usualO) : TermD H p t os :=
  ⟨e, o, good_to g ho, g.short.cal, g.short.rule, g.short.conv, g.short.mode, g.short.scheme, (ord_few ho).1, (ord_few ho).2⟩
theorem opt_len {z : Str} (h : (z == "" || nameB z) = true) : z.length ≤ 12 := by
  rcases Bool.or_eq_true_iff.mp h with e | e
  · rw [eq_of_beq e]; decide +kernel
  · exact (nameB_iff.mp e).2.1
theorem nmZ {z : Str} (h : (z == "" || nameB z) = true) (l : (z ++ "z" : Str).length ≤ 12) : nameB (z ++ "z") = true := by
  rcases Bool.or_eq_true_iff.mp h with e | e
  · rw [eq_of_beq e]; decide +kernel
  · obtain ⟨h1, h2, h3, h4⟩ := nameB_iff.mp e
    have ec : (z ++ "z" : Str).cps.toList = z.cps.toList ++ ("z" : Str).cps.toList := Array.toList_append
    have ez : ("z" : Str).cps.toList = [122] := by decide +kernel
    refine nameB_iff.mpr ⟨by rw [len_app]; omega, l, ?_, fun c hc => ?_⟩
    · rw [ec]
      cases hq : z.cps.toList with
      | nil =>
        rw [hq] at h3
        cases h3
      | cons a r =>
        rw [hq] at h3
        exact h3
    · rw [ec, ez] at hc
      rcases List.mem_append.mp hc with hc | hc
      · exact h4 c hc
      · rw [List.mem_singleton.mp hc]
        decide
theorem pm_ok {x b : Int} (h : 0 ≤ x ∧ x ≤ b) (hb : 1 ≤ b) : 0 ≤ x + 1 - 2 * (if decide (0 < x) = true then (1 : Int) else 0) ∧ x + 1 - 2 * (if decide (0 < x) = true then (1 : Int) else 0) ≤ b := by
  by_cases c : 0 < x
  · rw [decide_eq_true c, if_pos rfl]
    omega
  · rw [decide_eq_false c, if_neg Bool.false_ne_true]
    omega
theorem dec_int {a b : Int} : decide (V.int a = V.int b) = decide (a = b) := by
  by_cases c : a = b
  · rw [decide_eq_true c, decide_eq_true (by rw [c])]
  · rw [decide_eq_false c, decide_eq_false fun z => c (V.int.inj z)]
end LB

set_option Elab.async false
set_option linter.all false
set_option maxRecDepth 100000
set_option maxHeartbeats 4000000
/-! whole numbers as texts of digits, of any size -/
namespace LB
open PySem PySem.Spec PyProof.Rows L2
/-! ### divmod, rjust with a fill, lstrip of signs, xs[::-1] -/
@[irreducible] def rDvm : List V → Hp → VK → Prop := fun xs H Q => ∃ i j : Int, xs = [.int i, .int j] ∧ CDivP i j ∧ ∀ p, H p = none → Q (.ref p) (upd H p (.tup [.int (i / j), .int (i % j)]))
theorem call_dvm {X : Cx} : CallR X (.builtin "divmod") rDvm := fun pins s σ H xs us Q I r h => call_divmodW pins s σ H xs us Q I r (by unfold rDvm at h; exact h)
theorem dvm_go {H : Hp} {Q : VK} {i j : Int} {n : Nat} (z : Sz n i) (hn : n ≤ 4000) (hj : 0 < j) (q : ∀ p, H p = none → Q (.ref p) (upd H p (.tup [.int (i / j), .int (i % j)]))) : rDvm [.int i, .int j] H Q := by
  unfold rDvm
  exact ⟨i, j, rfl, divp_ok hj (Nat.le_trans (intBits_le z.1) (by omega)), q⟩
@[irreducible] def rRjF : V → List V → Hp → VK → Prop := fun x xs H Q => ∃ (a f : Str) (i : Int), x = .str a ∧ xs = [.int i, .str f] ∧ PadOk i = true ∧ f.length = 1 ∧ Q (.str (Txt.rjustF a i (f.cps.getD 0 0))) H
theorem mt_rjF {X : Cx} : MtR X "str.rjust" rRjF := by
  intro pins s σ H x xs v us Q I rx rs h
  unfold rRjF at h
  obtain ⟨a, f, i, rfl, rfl, hp, hf, q⟩ := h
  obtain ⟨t, rfl⟩ := rx
  cases rs with
  | cons r1 rs =>
    cases rs with
    | cons r2 rs =>
      cases rs
      obtain ⟨u, rfl⟩ := r1
      obtain ⟨z, rfl⟩ := r2
      exact rjust_fill hp hf fun t' k => ⟨.str (Txt.rjustF a i (f.cps.getD 0 0)), H, I.tok k, ⟨t', rfl⟩, q⟩
theorem rjF_go {H : Hp} {Q : VK} {a f : Str} {i : Int} (hp : PadOk i = true) (hf : f.length = 1) (q : Q (.str (Txt.rjustF a i (f.cps.getD 0 0))) H) : rRjF (.str a) [.int i, .str f] H Q := by
  unfold rRjF
  exact ⟨a, f, i, rfl, rfl, hp, hf, q⟩
@[irreducible] def rLsC : V → List V → Hp → VK → Prop := fun x xs H Q => ∃ a b, x = .str a ∧ xs = [.str b] ∧ a.length ≤ sizeLine ∧ Q (.str (Txt.lstripChars a b)) H
theorem mt_lsC {X : Cx} : MtR X "str.lstrip" rLsC := fun pins s σ H x xs v us Q I rx rs h => mt_lstripChars pins s σ H x xs v us Q I rx rs (by unfold rLsC at h; exact h)
theorem lsC_go {H : Hp} {Q : VK} {a b : Str} (hl : a.length ≤ sizeLine) (q : Q (.str (Txt.lstripChars a b)) H) : rLsC (.str a) [.str b] H Q := by
  unfold rLsC
  exact ⟨a, b, rfl, rfl, hl, q⟩
/-! ### digits -/
/-- w digits of n, the last ones -/
def dw : Nat → Nat → List Nat
  | 0, _ => []
  | w + 1, n => dw w (n / 10) ++ [48 + n % 10]
theorem dw_len : ∀ (w n : Nat), (dw w n).length = w
  | 0, _ => rfl
  | w + 1, n => by rw [dw, List.length_append, dw_len w]; rfl
theorem dw_zero : ∀ w : Nat, dw w 0 = List.replicate w 48
  | 0 => rfl
  | w + 1 => by
    show dw w (0 / 10) ++ [48 + 0 % 10] = _
    rw [show 0 / 10 = 0 from rfl, dw_zero w, List.replicate_succ']
theorem dw_add (a : Nat) : ∀ (b n : Nat), dw (a + b) n = dw a (n / 10 ^ b) ++ dw b n
  | 0, n => by rw [Nat.pow_zero, Nat.div_one, dw, List.append_nil]; rfl
  | b + 1, n => by
    show dw (a + b) (n / 10) ++ [48 + n % 10] = _
    rw [dw_add a b, dw, List.append_assoc, Nat.div_div_eq_div_mul, Nat.pow_succ, Nat.mul_comm]
theorem dw_mod : ∀ (w n : Nat), dw w (n % 10 ^ w) = dw w n
  | 0, _ => rfl
  | w + 1, n => by
    have e1 : n % 10 ^ (w + 1) / 10 = n / 10 % 10 ^ w := by
      rw [Nat.pow_succ, Nat.mul_comm, Nat.mod_mul_right_div_self]
    have e2 : n % 10 ^ (w + 1) % 10 = n % 10 := by
      rw [Nat.pow_succ, Nat.mul_comm, Nat.mod_mul_right_mod]
    rw [dw, dw, e1, e2, dw_mod w]
/-- the digits of n -/
def dg (n : Nat) : List Nat := (Nat.toDigits 10 n).map Char.toNat
theorem dg_small {n : Nat} (h : n < 10) : dg n = [48 + n] := by
  unfold dg
  rw [Nat.toDigits_of_lt_base h]
  revert n
  decide
theorem dg_big {n : Nat} (h : 10 ≤ n) : dg n = dg (n / 10) ++ [48 + n % 10] := by
  unfold dg
  rw [Nat.toDigits_of_base_le (by decide) h, List.map_append]
  congr 1
  have := Nat.mod_lt n (show 0 < 10 by decide)
  generalize n % 10 = k at this
  revert k
  decide
theorem dg_len {n w : Nat} (h : n < 10 ^ w) (hw : 0 < w) : (dg n).length ≤ w := by
  unfold dg
  rw [List.length_map]
  exact (Nat.length_toDigits_le_iff (by decide) hw).mpr h
theorem dg_pad : ∀ (w n : Nat), n < 10 ^ (w + 1) → List.replicate (w + 1 - (dg n).length) 48 ++ dg n = dw (w + 1) n
  | 0, n, h => by
    rw [dg_small (by omega), dw, dw, Nat.mod_eq_of_lt (show n < 10 by omega)]
    rfl
  | w + 1, n, h => by
    by_cases h1 : n < 10
    · rw [dg_small h1, dw, Nat.div_eq_of_lt h1, dw_zero, Nat.mod_eq_of_lt h1]
      rfl
    · have hn : n / 10 < 10 ^ (w + 1) := by
        rw [Nat.pow_succ] at h
        omega
      rw [dg_big (by omega), dw, ← dg_pad w _ hn, List.length_append, ← List.append_assoc]
      rw [show w + 1 + 1 - ((dg (n / 10)).length + [48 + n % 10].length) = w + 1 - (dg (n / 10)).length by simp only [List.length_cons, List.length_nil]; omega]
theorem dg_strip : ∀ (w n : Nat), 0 < n → n < 10 ^ w → (dw w n).dropWhile (fun c => c == 48) = dg n
  | 0, n, h0, h => by omega
  | w + 1, n, h0, h => by
    rw [dw]
    by_cases h1 : n < 10
    · rw [Nat.div_eq_of_lt h1, dw_zero, Nat.mod_eq_of_lt h1, dg_small h1]
      have : ∀ k : Nat, (List.replicate k 48 ++ [48 + n]).dropWhile (fun c => c == 48) = [48 + n] := fun k => by
        induction k with
        | zero =>
          rw [List.replicate_zero, List.nil_append, List.dropWhile_cons_of_neg]
          simp only [beq_iff_eq]
          omega
        | succ k ih =>
          rw [List.replicate_succ, List.cons_append, List.dropWhile_cons_of_pos (by rfl), ih]
      exact this w
    · have hn : n / 10 < 10 ^ w := by
        rw [Nat.pow_succ] at h
        omega
      have ih := dg_strip w (n / 10) (by omega) hn
      have hne : dg (n / 10) ≠ [] := by
        unfold dg
        intro h
        exact Nat.toDigits_ne_nil (List.map_eq_nil_iff.mp h)
      rw [List.dropWhile_append, ih, dg_big (n := n) (by omega)]
      cases e : dg (n / 10) with
      | nil => exact absurd e hne
      | cons a l => rfl

theorem dg_pos (n : Nat) : 0 < (dg n).length := by
  unfold dg
  rw [List.length_map]
  exact Nat.length_toDigits_pos
theorem tl_nat (n : Nat) : (Str.ofString (toString ((n : Nat) : Int))).cps.toList = dg n := by
  show (Str.ofString (Nat.repr n)).cps.toList = _
  rw [Str.ofString_eq_toList, Nat.toList_repr]
  rfl
theorem str_ext {a b : Str} (h : a.cps.toList = b.cps.toList) : a = b := Str.ext' (Array.toList_inj.mp h)
theorem str_neg {i : Int} (h : i < 0) : Str.ofString (toString i) = Str.ofString "-" ++ Str.ofString (toString (-i)) := by
  obtain ⟨m, rfl⟩ : ∃ m : Nat, i = Int.negSucc m := ⟨(-i - 1).toNat, by omega⟩
  refine str_ext ?_
  rw [tl_app, show -Int.negSucc m = ((m + 1 : Nat) : Int) from rfl, tl_nat]
  show (Str.ofString ("-" ++ Nat.repr (m + 1))).cps.toList = _
  rw [Str.ofString_eq_toList, String.toList_append, Nat.toList_repr, List.map_append]
  rfl
theorem str_le {i : Int} (h : 0 ≤ i) (z : Sz 1900 i) : (Str.ofString (toString i)).length ≤ 600 := by
  obtain ⟨n, rfl⟩ : ∃ n : Nat, i = n := ⟨i.toNat, by omega⟩
  have hn : n < 10 ^ 600 := Nat.lt_of_lt_of_le (show n < 2 ^ 1900 from z.1) (by decide +kernel)
  have e := congrArg List.length (tl_nat n)
  have := dg_len hn (by decide)
  rw [← e] at this
  exact this
theorem emp_app (x : Str) : Str.empty ++ x = x := str_ext (by rw [tl_app]; rfl)
theorem str_len1 {i : Int} (z : Sz 1900 i) : (Str.ofString (toString i)).length ≤ 601 := by
  by_cases h : 0 ≤ i
  · exact Nat.le_succ_of_le (str_le h z)
  · rw [str_neg (by omega), len_app]
    have := str_le (i := -i) (by omega) z.neg
    have e : (Str.ofString "-").length = 1 := rfl
    omega
/-- a chunk of w digits -/
theorem pad_tl {n w : Nat} (h : n < 10 ^ (w + 1)) : (Txt.rjustF (Str.ofString (toString ((n : Nat) : Int))) ((w + 1 : Nat) : Int) 48).cps.toList = dw (w + 1) n := by
  have e := tl_nat n
  have hl : (Str.ofString (toString ((n : Nat) : Int))).length = (dg n).length := by rw [← e]; rfl
  have hle := dg_len h (by omega)
  rw [← dg_pad w n h]
  unfold Txt.rjustF
  by_cases c : ((w + 1 : Nat) : Int) ≤ (Str.ofString (toString ((n : Nat) : Int))).length
  · rw [if_pos c, e, show w + 1 - (dg n).length = 0 by omega]
    rfl
  · rw [if_neg c]
    show (Array.replicate _ 48 ++ (Str.ofString (toString ((n : Nat) : Int))).cps ++ Array.replicate 0 48).toList = _
    rw [Array.toList_append, Array.toList_append, Array.toList_replicate, e, hl, Int.toNat_natCast]
    exact List.append_nil _
theorem lstrip_tl {x y : Str} : (Txt.lstripChars x y).cps.toList = x.cps.toList.dropWhile y.cps.contains := by
  unfold Txt.lstripChars
  rw [stripBy_eq]
  show (x.cps.extract (x.cps.toList.takeWhile y.cps.contains).length x.length).toList = _
  rw [Array.toList_extract]
  show ((x.cps.toList.drop _).take _) = _
  have : ∀ l : List Nat, (l.drop (l.takeWhile y.cps.contains).length).take (l.length - (l.takeWhile y.cps.contains).length) = l.dropWhile y.cps.contains := fun l => by
    rw [List.take_of_length_le (by rw [List.length_drop]; exact Nat.le_refl _)]
    induction l with
    | nil => rfl
    | cons a l ih =>
      by_cases c : y.cps.contains a = true
      · rw [List.takeWhile_cons_of_pos c, List.dropWhile_cons_of_pos c, List.length_cons, List.drop_succ_cons, ih]
      · rw [List.takeWhile_cons_of_neg c, List.dropWhile_cons_of_neg c]
        rfl
  exact this x.cps.toList
/-- the chunks of n, the last ones first -/
def chk (n : Nat) : Nat → List Str
  | 0 => []
  | k + 1 => chk n k ++ [Txt.rjustF (Str.ofString (toString ((n / (10 ^ 18) ^ k % 10 ^ 18 : Nat) : Int))) ((18 : Nat) : Int) 48]
theorem chk_tl (n : Nat) : ∀ k, (chk n k).reverse.flatMap (fun y => y.cps.toList) = dw (18 * k) n
  | 0 => rfl
  | k + 1 => by
    have h : n / (10 ^ 18) ^ k % 10 ^ 18 < 10 ^ (17 + 1) := Nat.mod_lt _ (by decide)
    rw [chk, List.reverse_append, List.flatMap_append, chk_tl n k]
    show (Txt.rjustF _ _ 48).cps.toList ++ [] ++ dw (18 * k) n = _
    rw [List.append_nil, pad_tl h, show (17 + 1 : Nat) = 18 from rfl, dw_mod, show 18 * (k + 1) = 18 + 18 * k by omega, dw_add, Nat.pow_mul]
theorem chk_len (n : Nat) : ∀ k, (chk n k).length = k
  | 0 => rfl
  | k + 1 => by rw [chk, List.length_append, chk_len n k]; rfl
theorem chk_each (n : Nat) : ∀ k, ∀ y ∈ chk n k, y.length = 18
  | 0, y, h => nomatch h
  | k + 1, y, h => by
    rw [chk, List.mem_append] at h
    rcases h with h | h
    · exact chk_each n k y h
    · rw [List.mem_singleton] at h
      have hh : n / (10 ^ 18) ^ k % 10 ^ 18 < 10 ^ (17 + 1) := Nat.mod_lt _ (by decide)
      have e := congrArg List.length (pad_tl hh)
      rw [dw_len] at e
      rw [h]
      exact e
theorem sum18 : ∀ l : List Str, (∀ y ∈ l, y.length = 18) → (l.map (·.length)).sum = 18 * l.length
  | [], _ => rfl
  | a :: l, h => by
    rw [List.map_cons, List.sum_cons, sum18 l fun y hy => h y (.tail _ hy), h a (.head _), List.length_cons]
    omega
/-- what show_integer's loop leaves -/
theorem chk_str {n k : Nat} (h0 : 0 < n) (h : n < (10 ^ 18) ^ k) : Txt.lstripChars (Txt.join Str.empty (chk n k).reverse) (Str.ofString "0") = Str.ofString (toString ((n : Nat) : Int)) := by
  refine str_ext ?_
  rw [lstrip_tl, tl_join0, chk_tl, tl_nat, ← dg_strip (18 * k) n h0 (by rw [Nat.pow_mul]; exact h)]
  congr 1
  funext c
  show (Str.ofString "0").cps.contains c = (c == 48)
  have : (Str.ofString "0").cps = #[48] := by decide +kernel
  rw [this]
  by_cases e : c = 48
  · subst e; simp
  · have : (c == 48) = false := beq_false_of_ne e
    rw [this]
    simp [e]
end LB

set_option Elab.async false
set_option linter.all false
set_option maxRecDepth 100000
set_option maxHeartbeats 4000000
/-! names that end in a number -/
namespace LB
open PySem PySem.Spec PyProof.Rows L2
theorem dg_dig (n : Nat) : ∀ c ∈ dg n, digC c = true := by
  induction n using Nat.strongRecOn with
  | _ n ih =>
    intro c hc
    have hd : ∀ k : Nat, k < 10 → digC (48 + k) = true := by decide
    by_cases h : n < 10
    · rw [dg_small h, List.mem_singleton] at hc
      rw [hc]
      exact hd n h
    · rw [dg_big (by omega)] at hc
      rcases List.mem_append.mp hc with hc | hc
      · exact ih (n / 10) (by omega) c hc
      · rw [List.mem_singleton] at hc
        rw [hc]
        exact hd _ (by omega)
/-- a name and a number behind it -/
theorem nm_num {z : Str} {i : Int} {w : Nat} (h : nameB z = true) (h0 : 0 ≤ i) (h1 : i < 10 ^ w) (hw : 0 < w) (hl : z.length + w ≤ 12) : nameB (z ++ (toString i : Str)) = true := by
  obtain ⟨n, rfl⟩ : ∃ n : Nat, i = n := ⟨i.toNat, by omega⟩
  have hn : n < 10 ^ w := by
    have : ((n : Nat) : Int) < ((10 ^ w : Nat) : Int) := by rw [Int.natCast_pow]; exact h1
    omega
  obtain ⟨a1, a2, a3, a4⟩ := nameB_iff.mp h
  have et := tl_nat n
  have ec : (z ++ (toString ((n : Nat) : Int) : Str) : Str).cps.toList = z.cps.toList ++ dg n := by
    rw [← et]
    exact Array.toList_append
  have el : (z ++ (toString ((n : Nat) : Int) : Str) : Str).length = z.length + (dg n).length := by
    rw [len_app, ← et]
    rfl
  have := dg_len hn hw
  refine nameB_iff.mpr ⟨by omega, by omega, ?_, fun c hc => ?_⟩
  · rw [ec]
    cases hq : z.cps.toList with
    | nil =>
      rw [hq] at a3
      cases a3
    | cons a r =>
      rw [hq] at a3
      exact a3
  · rw [ec] at hc
    rcases List.mem_append.mp hc with hc | hc
    · exact a4 c hc
    · rw [dg_dig n c hc, Bool.or_true]
end LB

set_option Elab.async false
set_option linter.all false
set_option maxRecDepth 100000
set_option maxHeartbeats 4000000
/-! sets made of lists of ints, sorted, counted -/
namespace LB
open PySem PySem.Spec PyProof.Rows L2
/-- the empty set's object -/
abbrev eSet (w : World) : Obj := { cls := .type "set", dict := none, data := .set #[] 0 (.fresh 0 0 (!w.params.followText "set-order")) }
section
variable {P : Program} {w : World} {A : Around} {E : Value → Shared → Prop} {s : Shared}
set_option maxHeartbeats 8000000 in
theorem set_of_list {l : Addr} {its : Array Value} (zs : List Int) {Q : Value → Shared → Prop} (nh : A.handled = none) (il : s.heap.IsList l its) (ia : IntsAre its.toList zs) (few : zs.length + 1 < scanBound)
    (k : ∀ (g : Heap) (tk c : Nat), SetR w g s.heap.objs.size (fun j => decide (j ∈ zs)) c → c ≤ zs.length → (∀ b o, s.heap.get? b = some o → g.get? b = some o) → Q (.ref s.heap.objs.size) { s with heap := g, toks := tk }) :
    wpAny (model P w) A (call (.type "set") [.ref l]) Q E s := by
  have sz0 : its.size = zs.length := by have q := IntsAre.length ia; rwa [Array.length_toList] at q
  obtain ⟨c0, t0, mro0⟩ := F.called_set.mro
  have f1 := F.called_set.made
  have f2 := F.called_set.sub
  refine wpAny_call (codeAny_of_tree ?_)
  show wpAny _ _ (callAny (.type "set") _) _ _ _
  refine wpAny_pure ⟨Code.quiet_builtin _ (by decide +kernel), codeAny_builtin F.entry_type_call ?_⟩
  rw [Around.under_plain (weight_type_call_type "set" [.ref l] []) rfl]
  have f3 := F.called_set.notType
  have f4 := F.called_set.canCreate
  have f5 := F.typeCall_set_1 (.ref l)
  repeat (any_goals (first | assumption | wp_step))
  refine codeAny_mono (code_set_led1 (.ref l) (E := E) (Q₁ := fun r t => r = .ref s.heap.objs.size ∧ t = { s with heap := s.heap.push (eSet w) }) ⟨rfl, rfl⟩) fun r t hr => ?_
  rcases r with e | (_ | _ | _ | obj)
  · exact hr
  · exact hr.elim
  · exact hr.elim
  · exact hr.elim
  obtain ⟨rfl, rfl⟩ := hr
  have at0 : (s.heap.push (eSet w)).get? s.heap.objs.size = some (eSet w) := Heap.get?_push_size _ rfl
  have ty0 : Shared.TypeIs { s with heap := s.heap.push (eSet w) } (.ref s.heap.objs.size) "set" := ⟨_, at0, rfl⟩
  have f6 := F.called_set.init.lookup
  have f7 := F.called_set.init.bind (.ref s.heap.objs.size)
  repeat (any_goals (first | assumption | wp_step))
  refine codeAny_mono (codeAny_call_builtin (R := wants (fun r t => r = .none ∧ ∃ g tk c, t = { s with heap := g, toks := tk } ∧ SetR w g s.heap.objs.size (fun j => decide (j ∈ zs)) c ∧ c ≤ zs.length ∧ (∀ b o, s.heap.get? b = some o → g.get? b = some o)) E) F.called_set.init.plain F.entry_set_init (check_set_init_1 ty0 ?_)) fun r2 t2 hr2 => ?_
  · obtain ⟨⟨oc, odd, odt, osl⟩, hol, hc, nl, hd⟩ := il
    simp only at hc hd
    subst hc hd
    have at1 : (s.heap.push (eSet w)).get? l = some { cls := .type "list", dict := odd, data := .seq its nl, slots := osl } := Heap.get?_push_of_some _ hol
    have g1 := F.sub_list_set
    have g2 := F.sub_list_frozenset
    have g3 : (Value.type "list" == Value.type "dict") = false := by decide
    have il1 : (s.heap.push (eSet w)).IsList l its := ⟨_, at1, rfl, nl, rfl⟩
    unfold Builtin.«set.__init__» noKeywords Builtin.Frozenset.updateFrom
    generalize hPI : pyIter = PI
    wp_walk
    subst hPI
    refine wpAny_pyIter_list il1 ?_
    refine wpAny_bind (wpAny_runValue ?_)
    have ll : l < s.heap.objs.size := Heap.lt_size hol
    have nh3 : A.in1.in1.in1.handled = none := by simp [nh]
    have psz : (s.heap.push (eSet w)).objs.size = s.heap.objs.size + 1 := Heap.size_push ..
    have n1 : l ≠ (s.heap.push (eSet w)).objs.size := by rw [psz]; exact Nat.ne_of_lt (Nat.lt_succ_of_lt ll)
    have n2 : s.heap.objs.size ∉ [(s.heap.push (eSet w)).objs.size, l] := by
      rw [psz]
      simp only [List.mem_cons, List.not_mem_nil, or_false, not_or]
      exact ⟨Nat.ne_of_lt (Nat.lt_succ_self _), Nat.ne_of_gt ll⟩
    have val : ∀ (i : Nat) (v : Value), its[i]? = some v → ∃ z t, zs[i]? = some z ∧ v = .int z t := fun i v hv => by
      have hi : i < zs.length := by
        rw [← sz0]
        exact (Array.getElem?_eq_some_iff.mp hv).1
      obtain ⟨t, e⟩ := IntsAre.int_at ia i v (by rw [Array.getElem?_toList]; exact hv)
      have ez : zs.getD i 0 = zs[i] := by rw [List.getD_eq_getElem?_getD, List.getElem?_eq_getElem hi]; rfl
      exact ⟨zs[i], t, List.getElem?_eq_getElem hi, by rw [e, ez]⟩
    refine set_update_ints ((Walks.list nh3 _ l n1 its).toS) s.heap.objs.size n2 zs sz0 few val (its.size - 0) 0 _ (by omega) (Nat.zero_le _) ⟨⟨_, Heap.get?_push_size _ rfl, rfl, rfl⟩, (il1.push _)⟩ ⟨0, Nat.le_refl 0, setR_new_at (Heap.get?_push_of_some _ at0)⟩ fun t c hm hc hS => ?_
    obtain ⟨g, gg, dd, tk, oo⟩ := t
    have q1 : gg = s.gens := hm.gens
    have q2 : dd = s.drawn := hm.drawn
    have q3 : oo = s.os := hm.os
    subst q1 q2 q3
    show wpAny _ _ _ _ _ _
    refine wpAny_pure ?_
    show wpAny _ _ (ret Value.none) _ _ _
    rw [sz0] at hc
    refine wpAny_pure ⟨rfl, g, tk, c, rfl, hS, hc, fun b o e => ?_⟩
    have b0 : b < s.heap.objs.size := Heap.lt_size e
    refine hm.heap b o ?_ (Heap.get?_push_of_some _ (Heap.get?_push_of_some _ e))
    rw [psz]
    simp only [List.mem_cons, List.not_mem_nil, or_false, not_or]
    exact ⟨Nat.ne_of_lt b0, Nat.ne_of_lt (Nat.lt_succ_of_lt b0)⟩
  · rcases r2 with e | (_ | _ | _ | v2)
    · exact hr2
    · exact hr2.elim
    · exact hr2.elim
    · exact hr2.elim
    obtain ⟨rfl, g, tk, c, rfl, hS, hc, hk⟩ := hr2
    repeat (any_goals (first | assumption | wp_step))
    exact k _ _ _ hS hc hk
end
end LB

set_option Elab.async false
set_option linter.all false
set_option maxRecDepth 100000
set_option maxHeartbeats 4000000
/-! set(xs), sorted(set(xs)), len(set(xs)) of ints -/
namespace LB
open PySem PySem.Spec PyProof.Rows L2
section
variable {P : Program} {w : World} {A : Around} {E : Value → Shared → Prop} {s : Shared}
/-- a set's members in order, any number of them -/
theorem set_sorted {a : Addr} {S : Int → Bool} {n : Nat} {Q : Value → Shared → Prop} (R : SetR w s.heap a S n) (nh : A.handled = none)
    (k : ∀ t p (out : Array Value) (c : Nat) (zs : List Int), (∀ b o, s.heap.get? b = some o → t.heap.get? b = some o) → t.gens = s.gens → t.os = s.os → s.heap.objs.size ≤ p →
      t.heap.get? p = some (seqObj "list" out c) → IntsAre out.toList zs → zs.Pairwise (· < ·) → (∀ z, z ∈ zs ↔ S z = true) → zs.length = n → Q (.ref p) t) :
    wpAny (model P w) A (call (.builtin "sorted") [.ref a]) Q E s := by
  obtain ⟨o, es, ep, t, ho, hx, hd, ge, nd, mem, few, fit, len, ris, led⟩ := R
  refine Calls.call_function_entry kind_sorted plain_sorted entry_sorted (args_sorted1 _) ?_
  unfold Builtin.«sorted»
  refine wpAny_bind (m := checkCount "sorted" 1 1 _) (wpAny_pure ?_)
  refine wpAny_bind (collect_set (A := A.in1) nh ⟨o, ho, hx.1, hd⟩ fit few ris led fun s1 vs k1 hz g1 o1 pm => ?_)
  have vl : vs.length = n := by rw [pm.length_eq, List.length_map, Array.length_toList]; exact len
  have vz : vs.length ≤ sizeLine := by
    rw [vl, ← len, sizeLine_eq]
    unfold scanBound at few
    omega
  have ia : IntsAre vs (vs.map Builtin.Re.reRawOf) := ints_of vs fun v hv => by
    obtain ⟨e, he, q⟩ := List.mem_map.mp (pm.mem_iff.mp hv)
    obtain ⟨z, tk, h1, _⟩ := ge e he
    exact ⟨z, tk, q.symm.trans h1⟩
  have pk : (vs.map Builtin.Re.reRawOf).Perm (es.toList.map keyOf) := by
    have q := pm.map Builtin.Re.reRawOf
    rwa [List.map_map] at q
  refine wpAny_bind (wpAny_newList ?_ vz)
  have lat : (s1.heap.push (seqObj "list" vs.toArray 0)).get? s1.heap.objs.size = some (seqObj "list" vs.toArray 0) := Heap.get?_push_size _ rfl
  refine wpAny_bind (wpAny_holding (wpAny_call_entry slot_list_sort ⟨_, lat, rfl⟩ entry_list_sort (SrtO.list_sort_ord SrtO.swo_int lat vz (fun h2 => SrtO.ints_sortable ia h2) fun out h1 h2 => ⟨_, rfl, ?_⟩) (args_list_sort _)))
  obtain ⟨c1, c2, c3⟩ := SrtO.ints_out ia h1 h2
  obtain ⟨c, hc⟩ := sortedHeap_at (vs := vs) (out := out.toArray) lat
  have pn : (out.map SrtO.iv).Perm (es.toList.map keyOf) := c2.trans pk
  refine wpAny_pure ⟨_, rfl, k _ s1.heap.objs.size out.toArray c (out.map SrtO.iv) (fun b u e => ?_) g1 o1 hz hc (by simpa using c1) (lt_of_le_nodup _ c3 (pn.nodup_iff.mpr nd)) (fun z => by rw [pn.mem_iff, ← mem z]) ?_⟩
  · have q := k1 b u e
    have lt1 := Heap.lt_size q
    refine (sortedHeap_old (Nat.ne_of_lt lt1) (by rw [size_push']; exact Nat.lt_succ_of_lt lt1)).trans (Heap.get?_push_of_some _ q)
  · rw [pn.length_eq, List.length_map, Array.length_toList]
    exact len
end
section
variable {X : Cx}
/-- set(xs), xs a list of ints -/
@[irreducible] def rSetL (K : PySem.W.Frag) (w : World) : List V → Hp → VK → Prop := fun vs H Q => ∃ (l : Addr) (zs : List Int), vs = [.ref l] ∧ SqL K H l (zs.map V.int) ∧ zs.length ≤ 4000 ∧
  ∀ p c, H p = none → c ≤ zs.length → Q (.ref p) (upd H p (SetO w p (fun j => decide (j ∈ zs)) c))
theorem call_setL (hc : X.calm = true) : CallR X (.type "set") (rSetL X.K X.w) := by
  intro pins s σ H vs us Q I r h
  unfold rSetL at h
  obtain ⟨l, zs, rfl, hs, hz, q⟩ := h
  obtain ⟨its, rv, hl, _⟩ := I.list hs
  rw [Vals.ref1 r]
  refine set_of_list zs (I.ok.hd hc) hl.isList (by simpa using rv.ints) (by unfold scanBound; omega) fun g tk c R hc2 kp => ?_
  exact ⟨.ref s.heap.objs.size, upd H s.heap.objs.size (SetO X.w s.heap.objs.size (fun j => decide (j ∈ zs)) c), I.laid (t' := tk) kp (Nat.le_refl _) (setO_new R), rfl, q _ c (I.hok.fresh (Nat.le_refl _)) hc2⟩
/-- sorted(found) -/
@[irreducible] def rSrtS (w : World) : List V → Hp → VK → Prop := fun vs H Q => ∃ (a : Addr) (S : Int → Bool) (n : Nat), vs = [V.ref a] ∧ H a = some (SetO w a S n) ∧
  ∀ (zs : List Int) (p : Addr), zs.Pairwise (· < ·) → (∀ k : Int, k ∈ zs ↔ S k = true) → zs.length = n → H p = none → Q (.ref p) (upd H p (.lst (zs.map V.int)))
theorem call_srtS (hc : X.calm = true) : CallR X (.builtin "sorted") (rSrtS X.w) := by
  intro pins s σ H vs us Q I r h
  unfold rSrtS at h
  obtain ⟨a, S, n, rfl, ha, q⟩ := h
  have R := setO_get I ha
  have hn4 : n < scanBound := by
    obtain ⟨_, _, _, _, _, _, _, _, _, _, few, _, len, _⟩ := R
    rw [← len]; exact few
  rw [Vals.ref1 r]
  refine set_sorted R (I.ok.hd hc) fun t p out c zs kp g o hp hg hi hs hm hl => ?_
  have hlen : (zs.map V.int).length ≤ sizeLine := by
    rw [List.length_map, hl, sizeLine_eq]
    unfold scanBound at hn4
    omega
  have np : H p = none := I.hok.fresh hp
  have J : Inv X pins σ (upd H p (.lst (zs.map V.int))) { s with heap := t.heap, gens := t.gens, drawn := t.drawn, toks := t.toks } :=
    I.call (ch := []) (Un.laid kp hp np) (I.hok.laid kp hp ⟨hlen, out.toList, c, vals_of_ints hi, hg⟩) (by rw [g]; exact I.bare) (fun _ z => nomatch z)
  have e : t = { s with heap := t.heap, gens := t.gens, drawn := t.drawn, toks := t.toks } := by
    obtain ⟨_, _, _, _, _⟩ := t
    obtain ⟨_, _, _, _, _⟩ := s
    cases o
    rfl
  rw [e]
  exact ⟨.ref p, _, J, rfl, q zs p hs hm hl np⟩
/-- sorted(xs) of ints -/
@[irreducible] def rSrtI (K : PySem.W.Frag) : List V → Hp → VK → Prop := fun vs H Q => rSortedI K vs H Q
theorem call_srtI : CallR X (.builtin "sorted") (rSrtI X.K) := fun pins s σ H xs us Q I r h => cr_sortedI pins s σ H xs us Q I r (by unfold rSrtI at h; exact h)
/-- len(found) -/
@[irreducible] def rLnS (w : World) : List V → Hp → VK → Prop := fun vs H Q => ∃ (a : Addr) (S : Int → Bool) (n : Nat), vs = [V.ref a] ∧ H a = some (SetO w a S n) ∧ ((∃ L : List Int, L.Nodup ∧ (∀ z, z ∈ L ↔ S z = true) ∧ L.length = n) → Q (.int (n : Nat)) H)
theorem call_lnS : CallR X (.builtin "len") (rLnS X.w) := by
  intro pins s σ H vs us Q I r h
  unfold rLnS at h
  obtain ⟨a, S, n, rfl, ha, q⟩ := h
  have R := setO_get I ha
  rw [Vals.ref1 r]
  have hS := R.setOf (P := X.prog)
  obtain ⟨_, es0, _, _, _, _, _, _, nd, mem, few, _, len, _⟩ := R
  obtain ⟨o, es, ep, t, ho, hex, hd, _, _, _, hf, hn⟩ := hS
  unfold scanBound at few
  exact call_len_set ho hex hd hf (by rw [hn]; omega) ⟨.int n, H, I.tok _, ⟨_, by rw [hn]⟩, q ⟨es0.toList.map keyOf, nd, fun z => (mem z).symm, by rw [List.length_map, Array.length_toList]; exact len⟩⟩
end
section
variable {K : PySem.W.Frag} {w : World} {H : Hp} {a l : Addr} {S : Int → Bool} {n : Nat} {zs : List Int} {Q : VK}
theorem setL_new (h : SqL K H l (zs.map V.int)) (hz : zs.length ≤ 4000) (q : ∀ p c, H p = none → c ≤ zs.length → Q (.ref p) (upd H p (SetO w p (fun j => decide (j ∈ zs)) c))) : rSetL K w [.ref l] H Q := by
  unfold rSetL
  exact ⟨l, zs, rfl, h, hz, q⟩
theorem srtS_go (h : H a = some (SetO w a S n)) (q : ∀ (zs : List Int) (p : Addr), zs.Pairwise (· < ·) → (∀ k : Int, k ∈ zs ↔ S k = true) → zs.length = n → H p = none → Q (.ref p) (upd H p (.lst (zs.map V.int)))) : rSrtS w [.ref a] H Q := by
  unfold rSrtS
  exact ⟨a, S, n, rfl, h, q⟩
theorem lnS_go (h : H a = some (SetO w a S n)) (q : Q (.int (n : Nat)) H) : rLnS w [.ref a] H Q := by
  unfold rLnS
  exact ⟨a, S, n, rfl, h, fun _ => q⟩
theorem lnS_len (h : H a = some (SetO w a S n)) (q : ∀ L : List Int, L.Nodup → (∀ z, z ∈ L ↔ S z = true) → L.length = n → Q (.int (n : Nat)) H) : rLnS w [.ref a] H Q := by
  unfold rLnS
  exact ⟨a, S, n, rfl, h, fun ⟨L, h1, h2, h3⟩ => q L h1 h2 h3⟩
theorem srtI_go (h : SqL K H l (zs.map V.int)) (q : ∀ (ns' : List Int) (p : Addr), ns'.Perm zs → ns'.Pairwise (· ≤ ·) → H p = none → Q (.ref p) (upd H p (.lst (ns'.map V.int)))) : rSrtI K [.ref l] H Q := by
  unfold rSrtI
  exact ⟨l, zs, rfl, h, q⟩
end
/-- there is just one ascending list of these -/
theorem asc_ints : ∀ {a b : List Int}, a.Pairwise (· < ·) → b.Pairwise (· < ·) → (∀ k, k ∈ a ↔ k ∈ b) → a = b
  | [], [], _, _, _ => rfl
  | [], y :: b, _, _, h => absurd ((h y).mpr (List.mem_cons_self ..)) (by simp)
  | x :: a, [], _, _, h => absurd ((h x).mp (List.mem_cons_self ..)) (by simp)
  | x :: a, y :: b, ha, hb, h => by
    have h1 := List.pairwise_cons.mp ha
    have h2 := List.pairwise_cons.mp hb
    have e : x = y := by
      rcases List.mem_cons.mp ((h x).mp (List.mem_cons_self ..)) with e | e
      · exact e
      · rcases List.mem_cons.mp ((h y).mpr (List.mem_cons_self ..)) with f | f
        · exact f.symm
        · have a1 := h2.1 x e
          have a2 := h1.1 y f
          omega
    subst e
    rw [asc_ints h1.2 h2.2 fun k => ?_]
    have hk := h k
    simp only [List.mem_cons] at hk
    constructor
    · intro m
      rcases hk.mp (.inr m) with e | e
      · have := h1.1 k m; omega
      · exact e
    · intro m
      rcases hk.mpr (.inr m) with e | e
      · have := h2.1 k m; omega
      · exact e
end LB

namespace My
open PySem PySem.Spec PyProof.Rows L2 LB
theorem ite_guard {c : Prop} [Decidable c] {A B : Prop} (h : if c then A else B) : if c then A else B := h
theorem iteKT {c : Bool} {A B : Prop} (hc : c = true) (h : A) : if c = true then A else B := by rw [if_pos hc]; exact h
theorem iteKF {c : Bool} {A B : Prop} (hc : c = false) (h : B) : if c = true then A else B := by rw [if_neg (by rw [hc]; exact Bool.false_ne_true)]; exact h
local macro_rules | `(tactic| walk_at "sz") => `(tactic| first
  | assumption
  | ((with_reducible apply Sz.mul) <;> walk_at "sz") | ((with_reducible apply Sz.add) <;> walk_at "sz") | ((with_reducible apply Sz.sub) <;> walk_at "sz") | ((with_reducible apply Sz.neg) <;> walk_at "sz")
  | exact Sz.mk (n := 64) (by omega) | exact Sz.mk (n := 201) (by omega) | ((with_reducible apply Sz.div) <;> walk_at "sz") | (with_reducible exact cell_sz (by assumption) _))
local macro_rules | `(tactic| walk_at "cond") => `(tactic| first
  | ((show (0 : Int) < _); first | decide | omega)
  | assumption
  | exact (True.intro : any1 _)
  | exact ty_s
  | ((with_reducible apply ty_l); (walk_at "sq")) | ((with_reducible apply ty_d); (walk_at "hp"))
  | ((with_reducible apply CM.of2) <;> first | walk_at "sz" | decide)
  | ((with_reducible apply CD.of2) <;> first | walk_at "sz" | decide | omega)
  | (with_reducible exact ⟨by decide, by decide, by decide⟩))
local macro_rules | `(tactic| walk_at "len") => `(tactic| first | assumption | exact Nat.lt_of_succ_le (Nat.le_of_ble_eq_true (by rfl)))
local macro_rules | `(tactic| walk_at "hp") => `(tactic| first | assumption | exact upd_same | ((with_reducible apply hp_upd) <;> (walk_at "hp")))
local macro_rules | `(tactic| walk_at "sq0") => `(tactic| first | assumption | exact l_of upd_same | exact t_of upd_same | (apply l_of; (assumption)) | (apply t_of; (assumption)) | walk_at "sqc")
local macro_rules | `(tactic| walk_at "sq1") => `(tactic| first | walk_at "sq0" | (apply lst_upd; (assumption); (walk_at "sq0")) | (apply tup_upd; (assumption); (walk_at "sq0")))
local macro_rules | `(tactic| walk_at "sq2") => `(tactic| first | walk_at "sq0" | (apply lst_upd; (assumption); (walk_at "sq1")) | (apply tup_upd; (assumption); (walk_at "sq1")))
local macro_rules | `(tactic| walk_at "sq3") => `(tactic| first | walk_at "sq0" | (apply lst_upd; (assumption); (walk_at "sq2")) | (apply tup_upd; (assumption); (walk_at "sq2")))
local macro_rules | `(tactic| walk_at "sq4") => `(tactic| first | walk_at "sq0" | (apply lst_upd; (assumption); (walk_at "sq3")) | (apply tup_upd; (assumption); (walk_at "sq3")))
local macro_rules | `(tactic| walk_at "sq5") => `(tactic| first | walk_at "sq0" | (apply lst_upd; (assumption); (walk_at "sq4")) | (apply tup_upd; (assumption); (walk_at "sq4")))
local macro_rules | `(tactic| walk_at "sq6") => `(tactic| first | walk_at "sq0" | (apply lst_upd; (assumption); (walk_at "sq5")) | (apply tup_upd; (assumption); (walk_at "sq5")))
local macro_rules | `(tactic| walk_at "sq7") => `(tactic| first | walk_at "sq0" | (apply lst_upd; (assumption); (walk_at "sq6")) | (apply tup_upd; (assumption); (walk_at "sq6")))
local macro_rules | `(tactic| walk_at "sq8") => `(tactic| first | walk_at "sq0" | (apply lst_upd; (assumption); (walk_at "sq7")) | (apply tup_upd; (assumption); (walk_at "sq7")))
local macro_rules | `(tactic| walk_at "sq") => `(tactic| walk_at "sq8")
local macro_rules | `(tactic| walk_at "ite0") => `(tactic| ((fail_if_success (with_reducible refine iteI (fun _ => ?_) (fun _ => ?_))); (fail_if_success (with_reducible refine iteIN (fun _ => ?_) (fun _ => ?_))); (fail_if_success (with_reducible refine iteD (fun _ => ?_) (fun _ => ?_))); (fail_if_success (with_reducible refine iteDN (fun _ => ?_) (fun _ => ?_))); (first | refine iteT ?_ | refine iteF ?_)))
local macro_rules | `(tactic| walk_at "ite1") => `(tactic| first | (refine iteKT (by decide +kernel) ?_) | (refine iteKF (by decide +kernel) ?_) | walk_at "ite0")
local macro_rules | `(tactic| walk_at "rd1") => `(tactic| first
  | refine ⟨_, rfl, ?_⟩
  | refine ⟨_, _, rfl, rfl, ?_⟩
  | refine ⟨rfl, ?_⟩
  | refine .inl ⟨_, rfl, ?_⟩
  | refine .inr ⟨_, rfl, ?_⟩
  | (with_reducible refine tC_go ?_) | (with_reducible refine tNoPart_go ?_)
  | ((with_reducible apply ixL_go); (first | assumption | exact l_of upd_same); (first | assumption | exact rfl))
  | ((with_reducible apply ixT_go); (first | assumption | exact t_of upd_same); (first | assumption | exact rfl))
  | walk_at "call"
  | (apply ixT_go; (walk_at "sq"); (first | assumption | rfl))
  | (apply ixL_go; (walk_at "sq"); (first | assumption | rfl))
  | (apply ixUT_go; (walk_at "sq"); (first | assumption | rfl))
  | (apply ixUL_go; (walk_at "sq"); (first | assumption | rfl))
  | (apply And.intro; (walk_at "cond"))
  | (apply And.intro; (exact Nat.le_of_ble_eq_true (by rfl)); (intro p hp))
  | refine ⟨_, _, _, rfl, (by walk_at "hp"), (by rfl), ?_⟩
  | ((with_reducible apply gTup_go); (walk_at "sq"); (exact rfl))
  | (apply ct_go; (walk_at "hp"); (walk_at "hp"); (first | assumption | exact Nat.le_of_ble_eq_true (by rfl)); (intro p hp))
  | (apply lo_l; (walk_at "sq"); (intro p hp)) | (apply lo_t; (walk_at "sq"); (intro p hp))
  | (apply mn_go) | (apply mx_go) | (apply isB_go) | (apply notB_go)
  | (apply setL_go; (walk_at "hp"); (first | assumption | exact rfl))
  | ((with_reducible apply slL_go); (walk_at "sq"); (intro p hp))
  | (apply inT_go; (walk_at "sq"); (exact rfl); (first | assumption | exact rfl)) | (apply inL_go; (walk_at "sq"); (exact rfl); (first | assumption | exact rfl))
  | (apply niT_go; (walk_at "sq"); (exact rfl); (first | assumption | exact rfl)) | (apply niL_go; (walk_at "sq"); (exact rfl); (first | assumption | exact rfl))
  | (apply app_go; (walk_at "hp"); (walk_at "len"))
  | (apply ln_t; (walk_at "sq")) | (apply ln_l; (walk_at "sq"))
  | (apply iteLen; (with_reducible rfl)) | (apply iteLenN; (with_reducible rfl)) | (apply iteLen; (exact rfl)) | (apply iteLenN; (exact rfl))
  | ((with_reducible refine ite_guard ?_); (walk_at "ite1"))
  | (apply isi_go (r := true); (first | exact .base (.int _) | exact .base (.str _) | exact .base (.bl _) | exact .base .non | exact tyx_t (by walk_at "sq") | exact tyx_l (by walk_at "sq")); (decide +kernel))
  | (apply isi_go (r := false); (first | exact .base (.int _) | exact .base (.str _) | exact .base (.bl _) | exact .base .non | exact tyx_t (by walk_at "sq") | exact tyx_l (by walk_at "sq")); (decide +kernel))
  | (apply isX_go; (walk_at "kit"); (walk_at "hp")) | (apply isX_ve; (walk_at "exv"); (walk_at "hp"))
  | (apply gTup_go; (walk_at "sq"); (exact rfl)) | (apply gCons_go) | (apply gNil_go))
local macro_rules | `(tactic| walk_at "rd") => `(tactic| repeat (walk_at "rd1"))

local macro_rules | `(tactic| walk_at "br1") => `(tactic| first
  | refine iteI (fun h => ?_) (fun h => ?_) | refine iteIN (fun h => ?_) (fun h => ?_)
  | refine iteS (fun h => ?_) (fun h => ?_) | refine iteSN (fun h => ?_) (fun h => ?_)
  | refine iteD (fun h => ?_) (fun h => ?_) | refine iteDN (fun h => ?_) (fun h => ?_))
local macro_rules | `(tactic| walk_at "go") => `(tactic| repeat' (first | walk_at "rd1" | walk_at "br1"))
local macro_rules | `(tactic| walk_at "sm0") => `(tactic| first | exact Same.refl _ | assumption)
local macro_rules | `(tactic| walk_at "sm1") => `(tactic| first | walk_at "sm0" | (apply same_new; (walk_at "sm0"); (assumption)) | (refine Same.trans ?_ (by assumption); (walk_at "sm0")))
local macro_rules | `(tactic| walk_at "sm2") => `(tactic| first | walk_at "sm0" | (apply same_new; (walk_at "sm1"); (assumption)) | (refine Same.trans ?_ (by assumption); (walk_at "sm1")))
local macro_rules | `(tactic| walk_at "sm3") => `(tactic| first | walk_at "sm0" | (apply same_new; (walk_at "sm2"); (assumption)) | (refine Same.trans ?_ (by assumption); (walk_at "sm2")))
local macro_rules | `(tactic| walk_at "sm4") => `(tactic| first | walk_at "sm0" | (apply same_new; (walk_at "sm3"); (assumption)) | (refine Same.trans ?_ (by assumption); (walk_at "sm3")))
local macro_rules | `(tactic| walk_at "sm5") => `(tactic| first | walk_at "sm0" | (apply same_new; (walk_at "sm4"); (assumption)) | (refine Same.trans ?_ (by assumption); (walk_at "sm4")))
local macro_rules | `(tactic| walk_at "sm6") => `(tactic| first | walk_at "sm0" | (apply same_new; (walk_at "sm5"); (assumption)) | (refine Same.trans ?_ (by assumption); (walk_at "sm5")))
local macro_rules | `(tactic| walk_at "sm7") => `(tactic| first | walk_at "sm0" | (apply same_new; (walk_at "sm6"); (assumption)) | (refine Same.trans ?_ (by assumption); (walk_at "sm6")))
local macro_rules | `(tactic| walk_at "sm8") => `(tactic| first | walk_at "sm0" | (apply same_new; (walk_at "sm7"); (assumption)) | (refine Same.trans ?_ (by assumption); (walk_at "sm7")))
local macro_rules | `(tactic| walk_at "sm9") => `(tactic| first | walk_at "sm0" | (apply same_new; (walk_at "sm8"); (assumption)) | (refine Same.trans ?_ (by assumption); (walk_at "sm8")))
local macro_rules | `(tactic| walk_at "sm10") => `(tactic| first | walk_at "sm0" | (apply same_new; (walk_at "sm9"); (assumption)) | (refine Same.trans ?_ (by assumption); (walk_at "sm9")))
local macro_rules | `(tactic| walk_at "sm11") => `(tactic| first | walk_at "sm0" | (apply same_new; (walk_at "sm10"); (assumption)) | (refine Same.trans ?_ (by assumption); (walk_at "sm10")))
local macro_rules | `(tactic| walk_at "sm12") => `(tactic| first | walk_at "sm0" | (apply same_new; (walk_at "sm11"); (assumption)) | (refine Same.trans ?_ (by assumption); (walk_at "sm11")))
local macro_rules | `(tactic| walk_at "sm13") => `(tactic| first | walk_at "sm0" | (apply same_new; (walk_at "sm12"); (assumption)) | (refine Same.trans ?_ (by assumption); (walk_at "sm12")))
local macro_rules | `(tactic| walk_at "sm14") => `(tactic| first | walk_at "sm0" | (apply same_new; (walk_at "sm13"); (assumption)) | (refine Same.trans ?_ (by assumption); (walk_at "sm13")))
local macro_rules | `(tactic| walk_at "sm") => `(tactic| walk_at "sm14")

local macro_rules | `(tactic| walk_at "rx") => `(tactic| (dsimp only [tC]; walk_at "rd"))

abbrev P : Program := PySem.Challenge.pw_lendbook_k27_terms_refuse
def top (i : Nat) : Stmt := PySem.Challenge.pw_lendbook_k27_terms_refuse.main.body.getD i (.Pass ⟨0, 0, 0, 0⟩)
abbrev s__wall : Stmt := top 0
abbrev s_check_between : Stmt := top 9
abbrev s_is_lower : Stmt := top 10
abbrev s_is_digit : Stmt := top 11
abbrev s_is_name : Stmt := top 14
abbrev s_check_name : Stmt := top 15
abbrev s_check_convention : Stmt := top 19
abbrev s_Terms___init__ : Stmt := inClass (top 30) 0
abbrev s_Terms_parts : Stmt := inClass (top 30) 1
abbrev s_Terms_copy_of : Stmt := inClass (top 30) 2
abbrev s_Terms_same_as : Stmt := inClass (top 30) 3
abbrev s_check_word : Stmt := top 31
abbrev s_check_terms : Stmt := top 32
abbrev s_check_charges : Stmt := top 33
abbrev s_check_together : Stmt := top 34
abbrev s_is_late_too_long : Stmt := top 35
abbrev s__law_cell : Stmt := top 37
abbrev s__law_draw : Stmt := top 38
abbrev s__law_whole : Stmt := top 39
abbrev s__law_fields : Stmt := top 40
abbrev s__law_order : Stmt := top 41
abbrev s__law_keys : Stmt := top 42
abbrev s__law_terms : Stmt := top 43
abbrev s__law_told : Stmt := top 44
abbrev s__law_spoilt : Stmt := top 45
abbrev s__law_error : Stmt := top 46
abbrev s_law : Stmt := top 47
theorem sc__wall : FnScope ["k"] ["k"] (defScope s__wall) := ⟨rfl, rfl, rfl, by decide +kernel, rfl, by decide +kernel, by decide +kernel⟩
theorem sc_check_between : FnScope ["value", "least", "most"] ["value", "least", "most"] (defScope s_check_between) := ⟨rfl, rfl, rfl, by decide +kernel, rfl, by decide +kernel, by decide +kernel⟩
theorem sc_is_lower : FnScope ["character"] ["character"] (defScope s_is_lower) := ⟨rfl, rfl, rfl, by decide +kernel, rfl, by decide +kernel, by decide +kernel⟩
theorem sc_is_digit : FnScope ["character"] ["character"] (defScope s_is_digit) := ⟨rfl, rfl, rfl, by decide +kernel, rfl, by decide +kernel, by decide +kernel⟩
theorem sc_is_name : FnScope ["text", "character"] ["text"] (defScope s_is_name) := ⟨rfl, rfl, rfl, by decide +kernel, rfl, by decide +kernel, by decide +kernel⟩
theorem sc_check_name : FnScope ["text"] ["text"] (defScope s_check_name) := ⟨rfl, rfl, rfl, by decide +kernel, rfl, by decide +kernel, by decide +kernel⟩
theorem sc_check_convention : FnScope ["convention"] ["convention"] (defScope s_check_convention) := ⟨rfl, rfl, rfl, by decide +kernel, rfl, by decide +kernel, by decide +kernel⟩
theorem sc_Terms___init__ : FnScope ["self", "name", "count", "every", "due_on", "calendar", "rule", "index", "rate", "lowest", "highest", "convention", "mode", "scheme", "free", "opening_fee", "opening_part", "period_fee", "late_fee", "grace", "early_part", "early_months", "order", "penalty"] ["self", "name", "count", "every", "due_on", "calendar", "rule", "index", "rate", "lowest", "highest", "convention", "mode", "scheme", "free", "opening_fee", "opening_part", "period_fee", "late_fee", "grace", "early_part", "early_months", "order", "penalty"] (defScope s_Terms___init__) := ⟨rfl, rfl, rfl, by decide +kernel, rfl, by decide +kernel, by decide +kernel⟩
theorem sc_Terms_parts : FnScope ["self"] ["self"] (defScope s_Terms_parts) := ⟨rfl, rfl, rfl, by decide +kernel, rfl, by decide +kernel, by decide +kernel⟩
theorem sc_Terms_copy_of : FnScope ["self"] ["self"] (defScope s_Terms_copy_of) := ⟨rfl, rfl, rfl, by decide +kernel, rfl, by decide +kernel, by decide +kernel⟩
theorem sc_Terms_same_as : FnScope ["self", "other"] ["self", "other"] (defScope s_Terms_same_as) := ⟨rfl, rfl, rfl, by decide +kernel, rfl, by decide +kernel, by decide +kernel⟩
theorem sc_check_word : FnScope ["value", "words"] ["value", "words"] (defScope s_check_word) := ⟨rfl, rfl, rfl, by decide +kernel, rfl, by decide +kernel, by decide +kernel⟩
theorem sc_check_terms : FnScope ["terms"] ["terms"] (defScope s_check_terms) := ⟨rfl, rfl, rfl, by decide +kernel, rfl, by decide +kernel, by decide +kernel⟩
theorem sc_check_charges : FnScope ["terms"] ["terms"] (defScope s_check_charges) := ⟨rfl, rfl, rfl, by decide +kernel, rfl, by decide +kernel, by decide +kernel⟩
theorem sc_check_together : FnScope ["terms"] ["terms"] (defScope s_check_together) := ⟨rfl, rfl, rfl, by decide +kernel, rfl, by decide +kernel, by decide +kernel⟩
theorem sc_is_late_too_long : FnScope ["late_fee", "grace", "every"] ["late_fee", "grace", "every"] (defScope s_is_late_too_long) := ⟨rfl, rfl, rfl, by decide +kernel, rfl, by decide +kernel, by decide +kernel⟩
theorem sc__law_cell : FnScope ["script", "k"] ["script", "k"] (defScope s__law_cell) := ⟨rfl, rfl, rfl, by decide +kernel, rfl, by decide +kernel, by decide +kernel⟩
theorem sc__law_draw : FnScope ["cell", "limits", "row", "rest", "great", "k", "mixed"] ["cell", "limits"] (defScope s__law_draw) := ⟨rfl, rfl, rfl, by decide +kernel, rfl, by decide +kernel, by decide +kernel⟩
theorem sc__law_whole : FnScope ["x"] ["x"] (defScope s__law_whole) := ⟨rfl, rfl, rfl, by decide +kernel, rfl, by decide +kernel, by decide +kernel⟩
theorem sc__law_fields : FnScope ["cell", "name", "d", "e", "f"] ["cell", "name"] (defScope s__law_fields) := ⟨rfl, rfl, rfl, by decide +kernel, rfl, by decide +kernel, by decide +kernel⟩
theorem sc__law_order : FnScope ["k", "kinds", "first", "rest", "kind"] ["k"] (defScope s__law_order) := ⟨rfl, rfl, rfl, by decide +kernel, rfl, by decide +kernel, by decide +kernel⟩
theorem sc__law_keys : FnScope ["keys"] [] (defScope s__law_keys) := ⟨rfl, rfl, rfl, by decide +kernel, rfl, by decide +kernel, by decide +kernel⟩
theorem sc__law_terms : FnScope ["f"] ["f"] (defScope s__law_terms) := ⟨rfl, rfl, rfl, by decide +kernel, rfl, by decide +kernel, by decide +kernel⟩
theorem sc__law_told : FnScope ["f", "e"] ["f"] (defScope s__law_told) := ⟨rfl, rfl, rfl, by decide +kernel, rfl, by decide +kernel, by decide +kernel⟩
theorem sc__law_spoilt : FnScope ["key", "cell", "low", "high", "bounds", "wrong"] ["key", "cell"] (defScope s__law_spoilt) := ⟨rfl, rfl, rfl, by decide +kernel, rfl, by decide +kernel, by decide +kernel⟩
theorem sc__law_error : FnScope ["key", "value"] ["key", "value"] (defScope s__law_error) := ⟨rfl, rfl, rfl, by decide +kernel, rfl, by decide +kernel, by decide +kernel⟩
theorem sc_law : FnScope ["script", "f", "keys", "places", "due", "between", "k", "key", "told"] ["script"] (defScope s_law) := ⟨rfl, rfl, rfl, by decide +kernel, rfl, by decide +kernel, by decide +kernel⟩
def kw_Terms___init__ (q : Addr) : List (Str × V) := [("every", .int 1), ("due_on", .int 1), ("calendar", .str ""), ("rule", .str "none"), ("index", .str ""), ("rate", .int 0), ("lowest", .int 0), ("highest", .int 1000000), ("convention", .str "actual/365"), ("mode", .str "near"), ("scheme", .str "annuity"), ("free", .int 0), ("opening_fee", .int 0), ("opening_part", .int 0), ("period_fee", .int 0), ("late_fee", .int 0), ("grace", .int 5), ("early_part", .int 0), ("early_months", .int 0), ("order", .ref q), ("penalty", .int 0)]
abbrev s_OutOfRange : Stmt := inClass (top 3) 0
abbrev s_UnknownName : Stmt := inClass (top 4) 0
abbrev s_BadName : Stmt := inClass (top 5) 0
def v_RULES : List V := [.str "none", .str "following", .str "preceding", .str "modified"]
def kv_PARTS : List (Str × V) := [("actual/365", .int 365), ("actual/360", .int 360), ("30/360", .int 360), ("actual/actual", .int 133590)]
def v_MODES : List V := [.str "down", .str "up", .str "near", .str "even"]
def v_SCHEMES : List V := [.str "annuity", .str "equal", .str "bullet"]
def v_EVERY : List V := [.int 1, .int 2, .int 3, .int 4, .int 6, .int 12]
def v_USUAL_ORDER : List V := [.str "fees", .str "interest", .str "principal"]
structure Txt (w : World) (K : PySem.W.Frag) (mg : Str → Option Value) : Type where
  a__wall : Addr
  fd__wall : FuncData
  F__wall : FunD K "_wall" "_wall" (defArgs s__wall) (defBody s__wall) (defScope s__wall) [] [] a__wall fd__wall
  m__wall : mg "_wall" = some (.ref a__wall)
  b__wall : Binds K fd__wall ["k"] []
  a_check_between : Addr
  fd_check_between : FuncData
  F_check_between : FunD K "check_between" "check_between" (defArgs s_check_between) (defBody s_check_between) (defScope s_check_between) [] [] a_check_between fd_check_between
  m_check_between : mg "check_between" = some (.ref a_check_between)
  b_check_between : Binds K fd_check_between ["value", "least", "most"] []
  a_is_lower : Addr
  fd_is_lower : FuncData
  F_is_lower : FunD K "is_lower" "is_lower" (defArgs s_is_lower) (defBody s_is_lower) (defScope s_is_lower) [] [] a_is_lower fd_is_lower
  m_is_lower : mg "is_lower" = some (.ref a_is_lower)
  b_is_lower : Binds K fd_is_lower ["character"] []
  a_is_digit : Addr
  fd_is_digit : FuncData
  F_is_digit : FunD K "is_digit" "is_digit" (defArgs s_is_digit) (defBody s_is_digit) (defScope s_is_digit) [] [] a_is_digit fd_is_digit
  m_is_digit : mg "is_digit" = some (.ref a_is_digit)
  b_is_digit : Binds K fd_is_digit ["character"] []
  a_is_name : Addr
  fd_is_name : FuncData
  F_is_name : FunD K "is_name" "is_name" (defArgs s_is_name) (defBody s_is_name) (defScope s_is_name) [] [] a_is_name fd_is_name
  m_is_name : mg "is_name" = some (.ref a_is_name)
  b_is_name : Binds K fd_is_name ["text"] []
  a_check_name : Addr
  fd_check_name : FuncData
  F_check_name : FunD K "check_name" "check_name" (defArgs s_check_name) (defBody s_check_name) (defScope s_check_name) [] [] a_check_name fd_check_name
  m_check_name : mg "check_name" = some (.ref a_check_name)
  b_check_name : Binds K fd_check_name ["text"] []
  a_check_convention : Addr
  fd_check_convention : FuncData
  F_check_convention : FunD K "check_convention" "check_convention" (defArgs s_check_convention) (defBody s_check_convention) (defScope s_check_convention) [] [] a_check_convention fd_check_convention
  m_check_convention : mg "check_convention" = some (.ref a_check_convention)
  b_check_convention : Binds K fd_check_convention ["convention"] []
  a_Terms___init__ : Addr
  fd_Terms___init__ : FuncData
  qk_Terms___init__ : Addr
  tk_Terms___init__ : ∀ H : Hp, SqT K H qk_Terms___init__ [.str "fees", .str "interest", .str "principal"]
  F_Terms___init__ : FunD K "__init__" "Terms.__init__" (defArgs s_Terms___init__) (defBody s_Terms___init__) (defScope s_Terms___init__) [] (kw_Terms___init__ qk_Terms___init__) a_Terms___init__ fd_Terms___init__
  a_Terms_parts : Addr
  fd_Terms_parts : FuncData
  F_Terms_parts : FunD K "parts" "Terms.parts" (defArgs s_Terms_parts) (defBody s_Terms_parts) (defScope s_Terms_parts) [] [] a_Terms_parts fd_Terms_parts
  b_Terms_parts : Binds K fd_Terms_parts ["self"] []
  a_Terms_copy_of : Addr
  fd_Terms_copy_of : FuncData
  F_Terms_copy_of : FunD K "copy_of" "Terms.copy_of" (defArgs s_Terms_copy_of) (defBody s_Terms_copy_of) (defScope s_Terms_copy_of) [] [] a_Terms_copy_of fd_Terms_copy_of
  b_Terms_copy_of : Binds K fd_Terms_copy_of ["self"] []
  a_Terms_same_as : Addr
  fd_Terms_same_as : FuncData
  F_Terms_same_as : FunD K "same_as" "Terms.same_as" (defArgs s_Terms_same_as) (defBody s_Terms_same_as) (defScope s_Terms_same_as) [] [] a_Terms_same_as fd_Terms_same_as
  b_Terms_same_as : Binds K fd_Terms_same_as ["self", "other"] []
  a_check_word : Addr
  fd_check_word : FuncData
  F_check_word : FunD K "check_word" "check_word" (defArgs s_check_word) (defBody s_check_word) (defScope s_check_word) [] [] a_check_word fd_check_word
  m_check_word : mg "check_word" = some (.ref a_check_word)
  b_check_word : Binds K fd_check_word ["value", "words"] []
  a_check_terms : Addr
  fd_check_terms : FuncData
  F_check_terms : FunD K "check_terms" "check_terms" (defArgs s_check_terms) (defBody s_check_terms) (defScope s_check_terms) [] [] a_check_terms fd_check_terms
  m_check_terms : mg "check_terms" = some (.ref a_check_terms)
  b_check_terms : Binds K fd_check_terms ["terms"] []
  a_check_charges : Addr
  fd_check_charges : FuncData
  F_check_charges : FunD K "check_charges" "check_charges" (defArgs s_check_charges) (defBody s_check_charges) (defScope s_check_charges) [] [] a_check_charges fd_check_charges
  m_check_charges : mg "check_charges" = some (.ref a_check_charges)
  b_check_charges : Binds K fd_check_charges ["terms"] []
  a_check_together : Addr
  fd_check_together : FuncData
  F_check_together : FunD K "check_together" "check_together" (defArgs s_check_together) (defBody s_check_together) (defScope s_check_together) [] [] a_check_together fd_check_together
  m_check_together : mg "check_together" = some (.ref a_check_together)
  b_check_together : Binds K fd_check_together ["terms"] []
  a_is_late_too_long : Addr
  fd_is_late_too_long : FuncData
  F_is_late_too_long : FunD K "is_late_too_long" "is_late_too_long" (defArgs s_is_late_too_long) (defBody s_is_late_too_long) (defScope s_is_late_too_long) [] [] a_is_late_too_long fd_is_late_too_long
  m_is_late_too_long : mg "is_late_too_long" = some (.ref a_is_late_too_long)
  b_is_late_too_long : Binds K fd_is_late_too_long ["late_fee", "grace", "every"] []
  a__law_cell : Addr
  fd__law_cell : FuncData
  F__law_cell : FunD K "_law_cell" "_law_cell" (defArgs s__law_cell) (defBody s__law_cell) (defScope s__law_cell) [] [] a__law_cell fd__law_cell
  m__law_cell : mg "_law_cell" = some (.ref a__law_cell)
  b__law_cell : Binds K fd__law_cell ["script", "k"] []
  a__law_draw : Addr
  fd__law_draw : FuncData
  F__law_draw : FunD K "_law_draw" "_law_draw" (defArgs s__law_draw) (defBody s__law_draw) (defScope s__law_draw) [] [] a__law_draw fd__law_draw
  m__law_draw : mg "_law_draw" = some (.ref a__law_draw)
  b__law_draw : Binds K fd__law_draw ["cell", "limits"] []
  a__law_whole : Addr
  fd__law_whole : FuncData
  F__law_whole : FunD K "_law_whole" "_law_whole" (defArgs s__law_whole) (defBody s__law_whole) (defScope s__law_whole) [] [] a__law_whole fd__law_whole
  m__law_whole : mg "_law_whole" = some (.ref a__law_whole)
  b__law_whole : Binds K fd__law_whole ["x"] []
  a__law_fields : Addr
  fd__law_fields : FuncData
  F__law_fields : FunD K "_law_fields" "_law_fields" (defArgs s__law_fields) (defBody s__law_fields) (defScope s__law_fields) [] [] a__law_fields fd__law_fields
  m__law_fields : mg "_law_fields" = some (.ref a__law_fields)
  b__law_fields : Binds K fd__law_fields ["cell", "name"] []
  a__law_order : Addr
  fd__law_order : FuncData
  F__law_order : FunD K "_law_order" "_law_order" (defArgs s__law_order) (defBody s__law_order) (defScope s__law_order) [] [] a__law_order fd__law_order
  m__law_order : mg "_law_order" = some (.ref a__law_order)
  b__law_order : Binds K fd__law_order ["k"] []
  a__law_keys : Addr
  fd__law_keys : FuncData
  F__law_keys : FunD K "_law_keys" "_law_keys" (defArgs s__law_keys) (defBody s__law_keys) (defScope s__law_keys) [] [] a__law_keys fd__law_keys
  m__law_keys : mg "_law_keys" = some (.ref a__law_keys)
  b__law_keys : Binds K fd__law_keys [] []
  a__law_terms : Addr
  fd__law_terms : FuncData
  F__law_terms : FunD K "_law_terms" "_law_terms" (defArgs s__law_terms) (defBody s__law_terms) (defScope s__law_terms) [] [] a__law_terms fd__law_terms
  m__law_terms : mg "_law_terms" = some (.ref a__law_terms)
  b__law_terms : Binds K fd__law_terms ["f"] []
  a__law_told : Addr
  fd__law_told : FuncData
  F__law_told : FunD K "_law_told" "_law_told" (defArgs s__law_told) (defBody s__law_told) (defScope s__law_told) [] [] a__law_told fd__law_told
  m__law_told : mg "_law_told" = some (.ref a__law_told)
  b__law_told : Binds K fd__law_told ["f"] []
  a__law_spoilt : Addr
  fd__law_spoilt : FuncData
  F__law_spoilt : FunD K "_law_spoilt" "_law_spoilt" (defArgs s__law_spoilt) (defBody s__law_spoilt) (defScope s__law_spoilt) [] [] a__law_spoilt fd__law_spoilt
  m__law_spoilt : mg "_law_spoilt" = some (.ref a__law_spoilt)
  b__law_spoilt : Binds K fd__law_spoilt ["key", "cell"] []
  a__law_error : Addr
  fd__law_error : FuncData
  F__law_error : FunD K "_law_error" "_law_error" (defArgs s__law_error) (defBody s__law_error) (defScope s__law_error) [] [] a__law_error fd__law_error
  m__law_error : mg "_law_error" = some (.ref a__law_error)
  b__law_error : Binds K fd__law_error ["key", "value"] []
  a_law : Addr
  fd_law : FuncData
  F_law : FunD K "law" "law" (defArgs s_law) (defBody s_law) (defScope s_law) [] [] a_law fd_law
  m_law : mg "law" = some (.ref a_law)
  b_law : Binds K fd_law ["script"] []
  c_Terms : Addr
  m_Terms : mg "Terms" = some (.ref c_Terms)
  cl_Terms : Cls K c_Terms
  mk_Terms : Mk K c_Terms a_Terms___init__
  me_Terms_parts : Meth K c_Terms "parts" a_Terms_parts
  me_Terms_copy_of : Meth K c_Terms "copy_of" a_Terms_copy_of
  me_Terms_same_as : Meth K c_Terms "same_as" a_Terms_same_as
  na_Terms_name : NoAttr K c_Terms "name"
  na_Terms_count : NoAttr K c_Terms "count"
  na_Terms_every : NoAttr K c_Terms "every"
  na_Terms_due_on : NoAttr K c_Terms "due_on"
  na_Terms_calendar : NoAttr K c_Terms "calendar"
  na_Terms_rule : NoAttr K c_Terms "rule"
  na_Terms_index : NoAttr K c_Terms "index"
  na_Terms_rate : NoAttr K c_Terms "rate"
  na_Terms_lowest : NoAttr K c_Terms "lowest"
  na_Terms_highest : NoAttr K c_Terms "highest"
  na_Terms_convention : NoAttr K c_Terms "convention"
  na_Terms_mode : NoAttr K c_Terms "mode"
  na_Terms_scheme : NoAttr K c_Terms "scheme"
  na_Terms_free : NoAttr K c_Terms "free"
  na_Terms_opening_fee : NoAttr K c_Terms "opening_fee"
  na_Terms_opening_part : NoAttr K c_Terms "opening_part"
  na_Terms_period_fee : NoAttr K c_Terms "period_fee"
  na_Terms_late_fee : NoAttr K c_Terms "late_fee"
  na_Terms_grace : NoAttr K c_Terms "grace"
  na_Terms_early_part : NoAttr K c_Terms "early_part"
  na_Terms_early_months : NoAttr K c_Terms "early_months"
  na_Terms_order : NoAttr K c_Terms "order"
  na_Terms_penalty : NoAttr K c_Terms "penalty"
  c_BookError : Addr
  m_BookError : mg "BookError" = some (.ref c_BookError)
  e_BookError : ECls K c_BookError
  c_OutOfRange : Addr
  m_OutOfRange : mg "OutOfRange" = some (.ref c_OutOfRange)
  e_OutOfRange : ECls K c_OutOfRange
  x_OutOfRange : XTxt P K mg "OutOfRange.__init__" s_OutOfRange c_OutOfRange
  n_OutOfRange_label : PySem.W.findIn K (.ref c_OutOfRange) "label" = some none
  n_OutOfRange_value : PySem.W.findIn K (.ref c_OutOfRange) "value" = some none
  c_UnknownName : Addr
  m_UnknownName : mg "UnknownName" = some (.ref c_UnknownName)
  e_UnknownName : ECls K c_UnknownName
  x_UnknownName : XTxt P K mg "UnknownName.__init__" s_UnknownName c_UnknownName
  n_UnknownName_label : PySem.W.findIn K (.ref c_UnknownName) "label" = some none
  n_UnknownName_name : PySem.W.findIn K (.ref c_UnknownName) "name" = some none
  c_BadName : Addr
  m_BadName : mg "BadName" = some (.ref c_BadName)
  e_BadName : ECls K c_BadName
  x_BadName : XTxt P K mg "BadName.__init__" s_BadName c_BadName
  n_BadName_label : PySem.W.findIn K (.ref c_BadName) "label" = some none
  n_BadName_name : PySem.W.findIn K (.ref c_BadName) "name" = some none
  y_BookError_BookError : PySem.W.subIn K (.ref c_BookError) (.ref c_BookError) = some true
  y_BookError_OutOfRange : PySem.W.subIn K (.ref c_BookError) (.ref c_OutOfRange) = some false
  y_BookError_UnknownName : PySem.W.subIn K (.ref c_BookError) (.ref c_UnknownName) = some false
  y_BookError_BadName : PySem.W.subIn K (.ref c_BookError) (.ref c_BadName) = some false
  yv_BookError : PySem.W.subIn K (.ref c_BookError) (.type "ValueError") = some true
  y_OutOfRange_BookError : PySem.W.subIn K (.ref c_OutOfRange) (.ref c_BookError) = some true
  y_OutOfRange_OutOfRange : PySem.W.subIn K (.ref c_OutOfRange) (.ref c_OutOfRange) = some true
  y_OutOfRange_UnknownName : PySem.W.subIn K (.ref c_OutOfRange) (.ref c_UnknownName) = some false
  y_OutOfRange_BadName : PySem.W.subIn K (.ref c_OutOfRange) (.ref c_BadName) = some false
  yv_OutOfRange : PySem.W.subIn K (.ref c_OutOfRange) (.type "ValueError") = some true
  y_UnknownName_BookError : PySem.W.subIn K (.ref c_UnknownName) (.ref c_BookError) = some true
  y_UnknownName_OutOfRange : PySem.W.subIn K (.ref c_UnknownName) (.ref c_OutOfRange) = some false
  y_UnknownName_UnknownName : PySem.W.subIn K (.ref c_UnknownName) (.ref c_UnknownName) = some true
  y_UnknownName_BadName : PySem.W.subIn K (.ref c_UnknownName) (.ref c_BadName) = some false
  yv_UnknownName : PySem.W.subIn K (.ref c_UnknownName) (.type "ValueError") = some true
  y_BadName_BookError : PySem.W.subIn K (.ref c_BadName) (.ref c_BookError) = some true
  y_BadName_OutOfRange : PySem.W.subIn K (.ref c_BadName) (.ref c_OutOfRange) = some false
  y_BadName_UnknownName : PySem.W.subIn K (.ref c_BadName) (.ref c_UnknownName) = some false
  y_BadName_BadName : PySem.W.subIn K (.ref c_BadName) (.ref c_BadName) = some true
  yv_BadName : PySem.W.subIn K (.ref c_BadName) (.type "ValueError") = some true
  m_MOST_CENTS : ∃ t, mg "MOST_CENTS" = some (.int 1000000000000 t)
  m_MOST_RATE : ∃ t, mg "MOST_RATE" = some (.int 1000000 t)
  m_NAME_LENGTH : ∃ t, mg "NAME_LENGTH" = some (.int 12 t)
  q_RULES : Addr
  m_RULES : mg "RULES" = some (.ref q_RULES)
  t_RULES : ∀ H : Hp, SqT K H q_RULES v_RULES
  q_PARTS : Addr
  m_PARTS : mg "PARTS" = some (.ref q_PARTS)
  kd_PARTS : ∃ es n, KDict K w q_PARTS es n
  ka_PARTS : ∀ z : Str, KAt K q_PARTS z (kget kv_PARTS z)
  q_MODES : Addr
  m_MODES : mg "MODES" = some (.ref q_MODES)
  t_MODES : ∀ H : Hp, SqT K H q_MODES v_MODES
  q_SCHEMES : Addr
  m_SCHEMES : mg "SCHEMES" = some (.ref q_SCHEMES)
  t_SCHEMES : ∀ H : Hp, SqT K H q_SCHEMES v_SCHEMES
  q_EVERY : Addr
  m_EVERY : mg "EVERY" = some (.ref q_EVERY)
  t_EVERY : ∀ H : Hp, SqT K H q_EVERY v_EVERY
  q_USUAL_ORDER : Addr
  m_USUAL_ORDER : mg "USUAL_ORDER" = some (.ref q_USUAL_ORDER)
  t_USUAL_ORDER : ∀ H : Hp, SqT K H q_USUAL_ORDER v_USUAL_ORDER
  m_SHORTEST_MONTH : ∃ t, mg "SHORTEST_MONTH" = some (.int 28 t)
  m_MOST_COUNT : ∃ t, mg "MOST_COUNT" = some (.int 480 t)
  m_MOST_FREE : ∃ t, mg "MOST_FREE" = some (.int 479 t)
  m_MOST_GRACE : ∃ t, mg "MOST_GRACE" = some (.int 90 t)
  m_MOST_PART : ∃ t, mg "MOST_PART" = some (.int 1000 t)
  z_len : mg "len" = none
  z_tuple : mg "tuple" = none
  z_sorted : mg "sorted" = none
  z_abs : mg "abs" = none
  z_range : mg "range" = none
  z_int : mg "int" = none
  z_isinstance : mg "isinstance" = none
  z_bool : mg "bool" = none
  z_min : mg "min" = none
  z_str : mg "str" = none
  z_max : mg "max" = none
section
variable {w : World} {K : PySem.W.Frag} {mg : Str → Option Value} {base : Heap}
theorem kit_BookError_BookError (T : Txt w K mg) : PySem.W.kitOne K (.ref T.c_BookError) (.ref T.c_BookError) = some true := T.e_BookError.kit T.y_BookError_BookError
theorem exm_BookError_BookError (T : Txt w K mg) : PySem.W.exmOne K (.ref T.c_BookError) (.ref T.c_BookError) = some true := T.e_BookError.exm T.y_BookError_BookError
theorem kit_BookError_OutOfRange (T : Txt w K mg) : PySem.W.kitOne K (.ref T.c_BookError) (.ref T.c_OutOfRange) = some false := T.e_OutOfRange.kit T.y_BookError_OutOfRange
theorem exm_BookError_OutOfRange (T : Txt w K mg) : PySem.W.exmOne K (.ref T.c_BookError) (.ref T.c_OutOfRange) = some false := T.e_OutOfRange.exm T.y_BookError_OutOfRange
theorem kit_BookError_UnknownName (T : Txt w K mg) : PySem.W.kitOne K (.ref T.c_BookError) (.ref T.c_UnknownName) = some false := T.e_UnknownName.kit T.y_BookError_UnknownName
theorem exm_BookError_UnknownName (T : Txt w K mg) : PySem.W.exmOne K (.ref T.c_BookError) (.ref T.c_UnknownName) = some false := T.e_UnknownName.exm T.y_BookError_UnknownName
theorem kit_BookError_BadName (T : Txt w K mg) : PySem.W.kitOne K (.ref T.c_BookError) (.ref T.c_BadName) = some false := T.e_BadName.kit T.y_BookError_BadName
theorem exm_BookError_BadName (T : Txt w K mg) : PySem.W.exmOne K (.ref T.c_BookError) (.ref T.c_BadName) = some false := T.e_BadName.exm T.y_BookError_BadName
theorem kit_OutOfRange_BookError (T : Txt w K mg) : PySem.W.kitOne K (.ref T.c_OutOfRange) (.ref T.c_BookError) = some true := T.e_BookError.kit T.y_OutOfRange_BookError
theorem exm_OutOfRange_BookError (T : Txt w K mg) : PySem.W.exmOne K (.ref T.c_OutOfRange) (.ref T.c_BookError) = some true := T.e_BookError.exm T.y_OutOfRange_BookError
theorem kit_OutOfRange_OutOfRange (T : Txt w K mg) : PySem.W.kitOne K (.ref T.c_OutOfRange) (.ref T.c_OutOfRange) = some true := T.e_OutOfRange.kit T.y_OutOfRange_OutOfRange
theorem exm_OutOfRange_OutOfRange (T : Txt w K mg) : PySem.W.exmOne K (.ref T.c_OutOfRange) (.ref T.c_OutOfRange) = some true := T.e_OutOfRange.exm T.y_OutOfRange_OutOfRange
theorem kit_OutOfRange_UnknownName (T : Txt w K mg) : PySem.W.kitOne K (.ref T.c_OutOfRange) (.ref T.c_UnknownName) = some false := T.e_UnknownName.kit T.y_OutOfRange_UnknownName
theorem exm_OutOfRange_UnknownName (T : Txt w K mg) : PySem.W.exmOne K (.ref T.c_OutOfRange) (.ref T.c_UnknownName) = some false := T.e_UnknownName.exm T.y_OutOfRange_UnknownName
theorem kit_OutOfRange_BadName (T : Txt w K mg) : PySem.W.kitOne K (.ref T.c_OutOfRange) (.ref T.c_BadName) = some false := T.e_BadName.kit T.y_OutOfRange_BadName
theorem exm_OutOfRange_BadName (T : Txt w K mg) : PySem.W.exmOne K (.ref T.c_OutOfRange) (.ref T.c_BadName) = some false := T.e_BadName.exm T.y_OutOfRange_BadName
theorem kit_UnknownName_BookError (T : Txt w K mg) : PySem.W.kitOne K (.ref T.c_UnknownName) (.ref T.c_BookError) = some true := T.e_BookError.kit T.y_UnknownName_BookError
theorem exm_UnknownName_BookError (T : Txt w K mg) : PySem.W.exmOne K (.ref T.c_UnknownName) (.ref T.c_BookError) = some true := T.e_BookError.exm T.y_UnknownName_BookError
theorem kit_UnknownName_OutOfRange (T : Txt w K mg) : PySem.W.kitOne K (.ref T.c_UnknownName) (.ref T.c_OutOfRange) = some false := T.e_OutOfRange.kit T.y_UnknownName_OutOfRange
theorem exm_UnknownName_OutOfRange (T : Txt w K mg) : PySem.W.exmOne K (.ref T.c_UnknownName) (.ref T.c_OutOfRange) = some false := T.e_OutOfRange.exm T.y_UnknownName_OutOfRange
theorem kit_UnknownName_UnknownName (T : Txt w K mg) : PySem.W.kitOne K (.ref T.c_UnknownName) (.ref T.c_UnknownName) = some true := T.e_UnknownName.kit T.y_UnknownName_UnknownName
theorem exm_UnknownName_UnknownName (T : Txt w K mg) : PySem.W.exmOne K (.ref T.c_UnknownName) (.ref T.c_UnknownName) = some true := T.e_UnknownName.exm T.y_UnknownName_UnknownName
theorem kit_UnknownName_BadName (T : Txt w K mg) : PySem.W.kitOne K (.ref T.c_UnknownName) (.ref T.c_BadName) = some false := T.e_BadName.kit T.y_UnknownName_BadName
theorem exm_UnknownName_BadName (T : Txt w K mg) : PySem.W.exmOne K (.ref T.c_UnknownName) (.ref T.c_BadName) = some false := T.e_BadName.exm T.y_UnknownName_BadName
theorem kit_BadName_BookError (T : Txt w K mg) : PySem.W.kitOne K (.ref T.c_BadName) (.ref T.c_BookError) = some true := T.e_BookError.kit T.y_BadName_BookError
theorem exm_BadName_BookError (T : Txt w K mg) : PySem.W.exmOne K (.ref T.c_BadName) (.ref T.c_BookError) = some true := T.e_BookError.exm T.y_BadName_BookError
theorem kit_BadName_OutOfRange (T : Txt w K mg) : PySem.W.kitOne K (.ref T.c_BadName) (.ref T.c_OutOfRange) = some false := T.e_OutOfRange.kit T.y_BadName_OutOfRange
theorem exm_BadName_OutOfRange (T : Txt w K mg) : PySem.W.exmOne K (.ref T.c_BadName) (.ref T.c_OutOfRange) = some false := T.e_OutOfRange.exm T.y_BadName_OutOfRange
theorem kit_BadName_UnknownName (T : Txt w K mg) : PySem.W.kitOne K (.ref T.c_BadName) (.ref T.c_UnknownName) = some false := T.e_UnknownName.kit T.y_BadName_UnknownName
theorem exm_BadName_UnknownName (T : Txt w K mg) : PySem.W.exmOne K (.ref T.c_BadName) (.ref T.c_UnknownName) = some false := T.e_UnknownName.exm T.y_BadName_UnknownName
theorem kit_BadName_BadName (T : Txt w K mg) : PySem.W.kitOne K (.ref T.c_BadName) (.ref T.c_BadName) = some true := T.e_BadName.kit T.y_BadName_BadName
theorem exm_BadName_BadName (T : Txt w K mg) : PySem.W.exmOne K (.ref T.c_BadName) (.ref T.c_BadName) = some true := T.e_BadName.exm T.y_BadName_BadName
local macro_rules | `(tactic| walk_at "kit") => `(tactic| first | exact kit_BookError_BookError (by assumption) | exact kit_BookError_OutOfRange (by assumption) | exact kit_BookError_UnknownName (by assumption) | exact kit_BookError_BadName (by assumption) | exact kit_OutOfRange_BookError (by assumption) | exact kit_OutOfRange_OutOfRange (by assumption) | exact kit_OutOfRange_UnknownName (by assumption) | exact kit_OutOfRange_BadName (by assumption) | exact kit_UnknownName_BookError (by assumption) | exact kit_UnknownName_OutOfRange (by assumption) | exact kit_UnknownName_UnknownName (by assumption) | exact kit_UnknownName_BadName (by assumption) | exact kit_BadName_BookError (by assumption) | exact kit_BadName_OutOfRange (by assumption) | exact kit_BadName_UnknownName (by assumption) | exact kit_BadName_BadName (by assumption))
local macro_rules | `(tactic| walk_at "exm") => `(tactic| first | exact exm_BookError_BookError (by assumption) | exact exm_BookError_OutOfRange (by assumption) | exact exm_BookError_UnknownName (by assumption) | exact exm_BookError_BadName (by assumption) | exact exm_OutOfRange_BookError (by assumption) | exact exm_OutOfRange_OutOfRange (by assumption) | exact exm_OutOfRange_UnknownName (by assumption) | exact exm_OutOfRange_BadName (by assumption) | exact exm_UnknownName_BookError (by assumption) | exact exm_UnknownName_OutOfRange (by assumption) | exact exm_UnknownName_UnknownName (by assumption) | exact exm_UnknownName_BadName (by assumption) | exact exm_BadName_BookError (by assumption) | exact exm_BadName_OutOfRange (by assumption) | exact exm_BadName_UnknownName (by assumption) | exact exm_BadName_BadName (by assumption))
local macro_rules | `(tactic| walk_at "exv") => `(tactic| first | exact Txt.yv_BookError (by assumption) | exact Txt.yv_OutOfRange (by assumption) | exact Txt.yv_UnknownName (by assumption) | exact Txt.yv_BadName (by assumption))
def f_OutOfRange : List V → List (Str × V) := fs1 "OutOfRange" "value"
theorem okx_OutOfRange (T : Txt w K mg) : ExcOk P w K mg base T.c_OutOfRange any1 f_OutOfRange 1 := by
  refine T.x_OutOfRange.ok (N := ["self", "value", "__class__"]) (ps := ["value"]) rfl rfl (NdefX.nscope_by (by decide +kernel)) rfl rfl (fun _ _ _ _ _ us hl => match us, hl with | [_, _], _ => rfl) (fun _ _ _ _ => rfl) (fun _ _ _ _ => rfl) (fun _ _ _ _ => rfl) (fun _ _ _ _ => ⟨_, rfl⟩) fun X cc cda fI L hK hN hE hO => ?_
  obtain ⟨_, _, _, _, _, _, _, _, _, _, _, _, _, _, _, _, _⟩ := X
  dsimp only at hK hN hE
  subst hK hN hE
  refine ⟨_, _, pa_cons pe_str pa_nil, pss_cons (ps_ost (pv 0) pe_str) (pss_one (ps_ost (pv 0) (pv 1))), fun a xs H Q hl ea hc q => ?_⟩
  obtain ⟨v, rfl⟩ : ∃ v, xs = [v] := match xs, hl with | [v], _ => ⟨v, rfl⟩
  exact ⟨(by show 1 ≤ 1000; decide), ea, two_stores hO T.n_OutOfRange_label T.n_OutOfRange_value ea (fun _ _ k => k) (fun _ _ k => ⟨_, rfl, k⟩) (fun _ _ k => ⟨_, rfl, k⟩) (fun _ _ k => ⟨_, rfl, k⟩) (fun d H' h1 h2 h3 h4 h5 => q d H' h1 h2 h3 h4 h5)⟩
def f_UnknownName : List V → List (Str × V) := fs1 "UnknownName" "name"
theorem okx_UnknownName (T : Txt w K mg) : ExcOk P w K mg base T.c_UnknownName text1 f_UnknownName 1 := by
  refine T.x_UnknownName.ok (N := ["self", "name", "__class__"]) (ps := ["name"]) rfl rfl (NdefX.nscope_by (by decide +kernel)) rfl rfl (fun _ _ _ _ _ us hl => match us, hl with | [_, _], _ => rfl) (fun _ _ _ _ => rfl) (fun _ _ _ _ => rfl) (fun _ _ _ _ => rfl) (fun _ _ _ _ => ⟨_, rfl⟩) fun X cc cda fI L hK hN hE hO => ?_
  obtain ⟨_, _, _, _, _, _, _, _, _, _, _, _, _, _, _, _, _⟩ := X
  dsimp only at hK hN hE
  subst hK hN hE
  refine ⟨_, _, pa_cons (pe_joined (.cons pe_str (.cons (pe_fmt (pv 1)) .nil))) pa_nil, pss_cons (ps_ost (pv 0) pe_str) (pss_one (ps_ost (pv 0) (pv 1))), fun a xs H Q hl ea hc q => ?_⟩
  obtain ⟨v, rfl⟩ : ∃ v, xs = [v] := match xs, hl with | [v], _ => ⟨v, rfl⟩
  obtain ⟨z, ez, hz⟩ := hc
  cases ez
  have tl := text_len "unknown name: " z (by decide +kernel) hz
  exact ⟨_, rfl, tl.1, _, rfl, .inl ⟨z, rfl, Nat.le_trans hz (by decide), ⟨z, rfl, tl.2, (by show 1 ≤ 1000; decide), ea, two_stores hO T.n_UnknownName_label T.n_UnknownName_name ea (fun _ _ k => k) (fun _ _ k => ⟨_, rfl, k⟩) (fun _ _ k => ⟨_, rfl, k⟩) (fun _ _ k => ⟨_, rfl, k⟩) (fun d H' h1 h2 h3 h4 h5 => q d H' h1 h2 h3 h4 h5)⟩⟩⟩
def f_BadName : List V → List (Str × V) := fs1 "BadName" "name"
theorem okx_BadName (T : Txt w K mg) : ExcOk P w K mg base T.c_BadName text1 f_BadName 1 := by
  refine T.x_BadName.ok (N := ["self", "name", "__class__"]) (ps := ["name"]) rfl rfl (NdefX.nscope_by (by decide +kernel)) rfl rfl (fun _ _ _ _ _ us hl => match us, hl with | [_, _], _ => rfl) (fun _ _ _ _ => rfl) (fun _ _ _ _ => rfl) (fun _ _ _ _ => rfl) (fun _ _ _ _ => ⟨_, rfl⟩) fun X cc cda fI L hK hN hE hO => ?_
  obtain ⟨_, _, _, _, _, _, _, _, _, _, _, _, _, _, _, _, _⟩ := X
  dsimp only at hK hN hE
  subst hK hN hE
  refine ⟨_, _, pa_cons (pe_joined (.cons pe_str (.cons (pe_fmt (pv 1)) .nil))) pa_nil, pss_cons (ps_ost (pv 0) pe_str) (pss_one (ps_ost (pv 0) (pv 1))), fun a xs H Q hl ea hc q => ?_⟩
  obtain ⟨v, rfl⟩ : ∃ v, xs = [v] := match xs, hl with | [v], _ => ⟨v, rfl⟩
  obtain ⟨z, ez, hz⟩ := hc
  cases ez
  have tl := text_len "not a name: " z (by decide +kernel) hz
  exact ⟨_, rfl, tl.1, _, rfl, .inl ⟨z, rfl, Nat.le_trans hz (by decide), ⟨z, rfl, tl.2, (by show 1 ≤ 1000; decide), ea, two_stores hO T.n_BadName_label T.n_BadName_name ea (fun _ _ k => k) (fun _ _ k => ⟨_, rfl, k⟩) (fun _ _ k => ⟨_, rfl, k⟩) (fun _ _ k => ⟨_, rfl, k⟩) (fun d H' h1 h2 h3 h4 h5 => q d H' h1 h2 h3 h4 h5)⟩⟩⟩
local macro_rules | `(tactic| walk_at "sqc") => `(tactic| first | exact Txt.t_RULES (by assumption) _ | exact Txt.t_MODES (by assumption) _ | exact Txt.t_SCHEMES (by assumption) _ | exact Txt.t_EVERY (by assumption) _ | exact Txt.t_USUAL_ORDER (by assumption) _)
local macro_rules | `(tactic| walk_at "sl") => `(tactic| first | assumption | (simp only [len_app]; rw [sizeLine_eq]; omega) | (rw [sizeLine_eq]; omega) | (rw [sizeLine_eq]; exact Nat.le_of_ble_eq_true (by rfl)))
local macro_rules | `(tactic| walk_at "call") => `(tactic| first | (apply lenS_go; (walk_at "sl")) | (apply leS_go) | (apply inC_go) | (apply niC_go) | (apply slS_go; (walk_at "sl")) | (apply addS_go; (walk_at "sl")) | (apply ixS_go; (walk_at "sl"); (assumption)))

theorem kb_Terms_0 (T : Txt w K mg) : ∃ mv : List Value, KBn K T.fd_Terms___init__ ["self", "name", "count", "every", "due_on", "calendar", "rule", "index", "rate", "lowest", "highest", "convention", "mode", "scheme", "free", "opening_fee", "opening_part", "period_fee", "late_fee", "grace", "early_part", "early_months", "order", "penalty"] 1 ["name", "count", "every", "due_on", "calendar", "rule", "index", "rate", "lowest", "highest", "convention", "mode", "scheme", "free", "opening_fee", "opening_part", "period_fee", "late_fee", "grace", "early_part", "early_months", "order", "penalty"] (fun us ws => us ++ pick [.inr 0, .inr 1, .inr 2, .inr 3, .inr 4, .inr 5, .inr 6, .inr 7, .inr 8, .inr 9, .inr 10, .inr 11, .inr 12, .inr 13, .inr 14, .inr 15, .inr 16, .inr 17, .inr 18, .inr 19, .inr 20, .inr 21, .inr 22] mv ws) (fun vs zs => vs ++ pick [.inr 0, .inr 1, .inr 2, .inr 3, .inr 4, .inr 5, .inr 6, .inr 7, .inr 8, .inr 9, .inr 10, .inr 11, .inr 12, .inr 13, .inr 14, .inr 15, .inr 16, .inr 17, .inr 18, .inr 19, .inr 20, .inr 21, .inr 22] (([] : List (Str × V)).map (·.2)) zs) :=
  kb_kwo T.F_Terms___init__ "self" ["name", "count", "every", "due_on", "calendar", "rule", "index", "rate", "lowest", "highest", "convention", "mode", "scheme", "free", "opening_fee", "opening_part", "period_fee", "late_fee", "grace", "early_part", "early_months", "order", "penalty"] ["name", "count", "every", "due_on", "calendar", "rule", "index", "rate", "lowest", "highest", "convention", "mode", "scheme", "free", "opening_fee", "opening_part", "period_fee", "late_fee", "grace", "early_part", "early_months", "order", "penalty"] [] ([] : List (Str × V)) [.inr 0, .inr 1, .inr 2, .inr 3, .inr 4, .inr 5, .inr 6, .inr 7, .inr 8, .inr 9, .inr 10, .inr 11, .inr 12, .inr 13, .inr 14, .inr 15, .inr 16, .inr 17, .inr 18, .inr 19, .inr 20, .inr 21, .inr 22] rfl rfl rfl rfl rfl (by intro z; cases z) (fun q hq => List.Sublist.subset (List.Sublist.cons _ (List.Sublist.cons _ (List.Sublist.cons _ (List.Sublist.cons _ (List.Sublist.cons _ (List.Sublist.cons _ (List.Sublist.cons _ (List.Sublist.cons _ (List.Sublist.cons _ (List.Sublist.cons _ (List.Sublist.cons _ (List.Sublist.cons _ (List.Sublist.cons _ (List.Sublist.cons _ (List.Sublist.cons _ (List.Sublist.cons _ (List.Sublist.cons _ (List.Sublist.cons _ (List.Sublist.cons _ (List.Sublist.cons _ (List.Sublist.cons _ List.Sublist.slnil))))))))))))))))))))) hq) rfl (by decide +kernel)
local macro_rules | `(tactic| walk_at "fld") => `(tactic| first | (apply fld_go (f := "name") (C := Txt.c_Terms (by assumption)); (walk_at "hp"); (exact Txt.cl_Terms (by assumption)); (exact Txt.na_Terms_name (by assumption)); (exact rfl)) | (apply fld_go (f := "count") (C := Txt.c_Terms (by assumption)); (walk_at "hp"); (exact Txt.cl_Terms (by assumption)); (exact Txt.na_Terms_count (by assumption)); (exact rfl)) | (apply fld_go (f := "every") (C := Txt.c_Terms (by assumption)); (walk_at "hp"); (exact Txt.cl_Terms (by assumption)); (exact Txt.na_Terms_every (by assumption)); (exact rfl)) | (apply fld_go (f := "due_on") (C := Txt.c_Terms (by assumption)); (walk_at "hp"); (exact Txt.cl_Terms (by assumption)); (exact Txt.na_Terms_due_on (by assumption)); (exact rfl)) | (apply fld_go (f := "calendar") (C := Txt.c_Terms (by assumption)); (walk_at "hp"); (exact Txt.cl_Terms (by assumption)); (exact Txt.na_Terms_calendar (by assumption)); (exact rfl)) | (apply fld_go (f := "rule") (C := Txt.c_Terms (by assumption)); (walk_at "hp"); (exact Txt.cl_Terms (by assumption)); (exact Txt.na_Terms_rule (by assumption)); (exact rfl)) | (apply fld_go (f := "index") (C := Txt.c_Terms (by assumption)); (walk_at "hp"); (exact Txt.cl_Terms (by assumption)); (exact Txt.na_Terms_index (by assumption)); (exact rfl)) | (apply fld_go (f := "rate") (C := Txt.c_Terms (by assumption)); (walk_at "hp"); (exact Txt.cl_Terms (by assumption)); (exact Txt.na_Terms_rate (by assumption)); (exact rfl)) | (apply fld_go (f := "lowest") (C := Txt.c_Terms (by assumption)); (walk_at "hp"); (exact Txt.cl_Terms (by assumption)); (exact Txt.na_Terms_lowest (by assumption)); (exact rfl)) | (apply fld_go (f := "highest") (C := Txt.c_Terms (by assumption)); (walk_at "hp"); (exact Txt.cl_Terms (by assumption)); (exact Txt.na_Terms_highest (by assumption)); (exact rfl)) | (apply fld_go (f := "convention") (C := Txt.c_Terms (by assumption)); (walk_at "hp"); (exact Txt.cl_Terms (by assumption)); (exact Txt.na_Terms_convention (by assumption)); (exact rfl)) | (apply fld_go (f := "mode") (C := Txt.c_Terms (by assumption)); (walk_at "hp"); (exact Txt.cl_Terms (by assumption)); (exact Txt.na_Terms_mode (by assumption)); (exact rfl)) | (apply fld_go (f := "scheme") (C := Txt.c_Terms (by assumption)); (walk_at "hp"); (exact Txt.cl_Terms (by assumption)); (exact Txt.na_Terms_scheme (by assumption)); (exact rfl)) | (apply fld_go (f := "free") (C := Txt.c_Terms (by assumption)); (walk_at "hp"); (exact Txt.cl_Terms (by assumption)); (exact Txt.na_Terms_free (by assumption)); (exact rfl)) | (apply fld_go (f := "opening_fee") (C := Txt.c_Terms (by assumption)); (walk_at "hp"); (exact Txt.cl_Terms (by assumption)); (exact Txt.na_Terms_opening_fee (by assumption)); (exact rfl)) | (apply fld_go (f := "opening_part") (C := Txt.c_Terms (by assumption)); (walk_at "hp"); (exact Txt.cl_Terms (by assumption)); (exact Txt.na_Terms_opening_part (by assumption)); (exact rfl)) | (apply fld_go (f := "period_fee") (C := Txt.c_Terms (by assumption)); (walk_at "hp"); (exact Txt.cl_Terms (by assumption)); (exact Txt.na_Terms_period_fee (by assumption)); (exact rfl)) | (apply fld_go (f := "late_fee") (C := Txt.c_Terms (by assumption)); (walk_at "hp"); (exact Txt.cl_Terms (by assumption)); (exact Txt.na_Terms_late_fee (by assumption)); (exact rfl)) | (apply fld_go (f := "grace") (C := Txt.c_Terms (by assumption)); (walk_at "hp"); (exact Txt.cl_Terms (by assumption)); (exact Txt.na_Terms_grace (by assumption)); (exact rfl)) | (apply fld_go (f := "early_part") (C := Txt.c_Terms (by assumption)); (walk_at "hp"); (exact Txt.cl_Terms (by assumption)); (exact Txt.na_Terms_early_part (by assumption)); (exact rfl)) | (apply fld_go (f := "early_months") (C := Txt.c_Terms (by assumption)); (walk_at "hp"); (exact Txt.cl_Terms (by assumption)); (exact Txt.na_Terms_early_months (by assumption)); (exact rfl)) | (apply fld_go (f := "order") (C := Txt.c_Terms (by assumption)); (walk_at "hp"); (exact Txt.cl_Terms (by assumption)); (exact Txt.na_Terms_order (by assumption)); (exact rfl)) | (apply fld_go (f := "penalty") (C := Txt.c_Terms (by assumption)); (walk_at "hp"); (exact Txt.cl_Terms (by assumption)); (exact Txt.na_Terms_penalty (by assumption)); (exact rfl)))
local macro_rules | `(tactic| walk_at "setf") => `(tactic| first | (apply setf_go (f := "name") (C := Txt.c_Terms (by assumption)); (walk_at "hp"); (exact Txt.cl_Terms (by assumption)); (exact Txt.na_Terms_name (by assumption)); (exact Nat.le_of_ble_eq_true (by rfl))) | (apply setf_go (f := "count") (C := Txt.c_Terms (by assumption)); (walk_at "hp"); (exact Txt.cl_Terms (by assumption)); (exact Txt.na_Terms_count (by assumption)); (exact Nat.le_of_ble_eq_true (by rfl))) | (apply setf_go (f := "every") (C := Txt.c_Terms (by assumption)); (walk_at "hp"); (exact Txt.cl_Terms (by assumption)); (exact Txt.na_Terms_every (by assumption)); (exact Nat.le_of_ble_eq_true (by rfl))) | (apply setf_go (f := "due_on") (C := Txt.c_Terms (by assumption)); (walk_at "hp"); (exact Txt.cl_Terms (by assumption)); (exact Txt.na_Terms_due_on (by assumption)); (exact Nat.le_of_ble_eq_true (by rfl))) | (apply setf_go (f := "calendar") (C := Txt.c_Terms (by assumption)); (walk_at "hp"); (exact Txt.cl_Terms (by assumption)); (exact Txt.na_Terms_calendar (by assumption)); (exact Nat.le_of_ble_eq_true (by rfl))) | (apply setf_go (f := "rule") (C := Txt.c_Terms (by assumption)); (walk_at "hp"); (exact Txt.cl_Terms (by assumption)); (exact Txt.na_Terms_rule (by assumption)); (exact Nat.le_of_ble_eq_true (by rfl))) | (apply setf_go (f := "index") (C := Txt.c_Terms (by assumption)); (walk_at "hp"); (exact Txt.cl_Terms (by assumption)); (exact Txt.na_Terms_index (by assumption)); (exact Nat.le_of_ble_eq_true (by rfl))) | (apply setf_go (f := "rate") (C := Txt.c_Terms (by assumption)); (walk_at "hp"); (exact Txt.cl_Terms (by assumption)); (exact Txt.na_Terms_rate (by assumption)); (exact Nat.le_of_ble_eq_true (by rfl))) | (apply setf_go (f := "lowest") (C := Txt.c_Terms (by assumption)); (walk_at "hp"); (exact Txt.cl_Terms (by assumption)); (exact Txt.na_Terms_lowest (by assumption)); (exact Nat.le_of_ble_eq_true (by rfl))) | (apply setf_go (f := "highest") (C := Txt.c_Terms (by assumption)); (walk_at "hp"); (exact Txt.cl_Terms (by assumption)); (exact Txt.na_Terms_highest (by assumption)); (exact Nat.le_of_ble_eq_true (by rfl))) | (apply setf_go (f := "convention") (C := Txt.c_Terms (by assumption)); (walk_at "hp"); (exact Txt.cl_Terms (by assumption)); (exact Txt.na_Terms_convention (by assumption)); (exact Nat.le_of_ble_eq_true (by rfl))) | (apply setf_go (f := "mode") (C := Txt.c_Terms (by assumption)); (walk_at "hp"); (exact Txt.cl_Terms (by assumption)); (exact Txt.na_Terms_mode (by assumption)); (exact Nat.le_of_ble_eq_true (by rfl))) | (apply setf_go (f := "scheme") (C := Txt.c_Terms (by assumption)); (walk_at "hp"); (exact Txt.cl_Terms (by assumption)); (exact Txt.na_Terms_scheme (by assumption)); (exact Nat.le_of_ble_eq_true (by rfl))) | (apply setf_go (f := "free") (C := Txt.c_Terms (by assumption)); (walk_at "hp"); (exact Txt.cl_Terms (by assumption)); (exact Txt.na_Terms_free (by assumption)); (exact Nat.le_of_ble_eq_true (by rfl))) | (apply setf_go (f := "opening_fee") (C := Txt.c_Terms (by assumption)); (walk_at "hp"); (exact Txt.cl_Terms (by assumption)); (exact Txt.na_Terms_opening_fee (by assumption)); (exact Nat.le_of_ble_eq_true (by rfl))) | (apply setf_go (f := "opening_part") (C := Txt.c_Terms (by assumption)); (walk_at "hp"); (exact Txt.cl_Terms (by assumption)); (exact Txt.na_Terms_opening_part (by assumption)); (exact Nat.le_of_ble_eq_true (by rfl))) | (apply setf_go (f := "period_fee") (C := Txt.c_Terms (by assumption)); (walk_at "hp"); (exact Txt.cl_Terms (by assumption)); (exact Txt.na_Terms_period_fee (by assumption)); (exact Nat.le_of_ble_eq_true (by rfl))) | (apply setf_go (f := "late_fee") (C := Txt.c_Terms (by assumption)); (walk_at "hp"); (exact Txt.cl_Terms (by assumption)); (exact Txt.na_Terms_late_fee (by assumption)); (exact Nat.le_of_ble_eq_true (by rfl))) | (apply setf_go (f := "grace") (C := Txt.c_Terms (by assumption)); (walk_at "hp"); (exact Txt.cl_Terms (by assumption)); (exact Txt.na_Terms_grace (by assumption)); (exact Nat.le_of_ble_eq_true (by rfl))) | (apply setf_go (f := "early_part") (C := Txt.c_Terms (by assumption)); (walk_at "hp"); (exact Txt.cl_Terms (by assumption)); (exact Txt.na_Terms_early_part (by assumption)); (exact Nat.le_of_ble_eq_true (by rfl))) | (apply setf_go (f := "early_months") (C := Txt.c_Terms (by assumption)); (walk_at "hp"); (exact Txt.cl_Terms (by assumption)); (exact Txt.na_Terms_early_months (by assumption)); (exact Nat.le_of_ble_eq_true (by rfl))) | (apply setf_go (f := "order") (C := Txt.c_Terms (by assumption)); (walk_at "hp"); (exact Txt.cl_Terms (by assumption)); (exact Txt.na_Terms_order (by assumption)); (exact Nat.le_of_ble_eq_true (by rfl))) | (apply setf_go (f := "penalty") (C := Txt.c_Terms (by assumption)); (walk_at "hp"); (exact Txt.cl_Terms (by assumption)); (exact Txt.na_Terms_penalty (by assumption)); (exact Nat.le_of_ble_eq_true (by rfl))))
local macro_rules | `(tactic| walk_at "call") => `(tactic| first | (walk_at "fld") | (walk_at "setf"))
local macro_rules | `(tactic| walk_at "kat") => `(tactic| first | exact Txt.ka_PARTS (by assumption) _)
local macro_rules | `(tactic| walk_at "call") => `(tactic| first | (apply kin_go; (walk_at "kat")) | (apply kni_go; (walk_at "kat")))
/-- the ways out of a check of terms -/
def TermE (T : Txt w K mg) (E : XK) (H : Hp) (r : Option TErr) : Prop := ∀ H', Same H H' → ∀ d, H' d = none → match r with
  | none => True
  | some (.bad z) => E (.ref T.c_BadName) (some d) (upd H' d (.xd (f_BadName [.str z])))
  | some (.range i) => E (.ref T.c_OutOfRange) (some d) (upd H' d (.xd (f_OutOfRange [.int i])))
  | some (.name z) => E (.ref T.c_UnknownName) (some d) (upd H' d (.xd (f_UnknownName [.str z])))
section
variable {T : Txt w K mg} {E : XK} {H H' : Hp} {c : Bool} {e : TErr} {r : Option TErr}
theorem TermE.same (s : Same H H') (h : TermE T E H r) : TermE T E H' r := fun H2 s2 => h H2 (s.trans s2)
theorem TermE.t (h : TermE T E H (orE c e r)) (k : c = true) : TermE T E H r := by rw [orE_t k] at h; exact h
theorem TermE.f (h : TermE T E H (orE c e r)) (k : c = false) : TermE T E H (some e) := by rw [orE_f k] at h; exact h
theorem TermE.bt {v a b : Int} (h : TermE T E H (btw v a b r)) (h1 : a ≤ v) (h2 : v ≤ b) : TermE T E H r := by rw [btw_t h1 h2] at h; exact h
theorem TermE.bf {v a b : Int} (h : TermE T E H (btw v a b r)) (k : v < a ∨ b < v) : TermE T E H (some (.range v)) := by rw [btw_f k] at h; exact h
theorem TermE.charge {t : TM} (h : TermE T E H (chargeErr t r)) : TermE T E H (chargeErr t none) := by
  intro H' s d nd
  have h2 := h H' s d nd
  rw [charge_or] at h2
  cases e : chargeErr t none with
  | none => trivial
  | some x => rw [e] at h2; exact h2
end

/-! ### _law_draw -/
/-- the size of a number -/
def ab (c : Int) : Int := if c < 0 then -c else c
theorem ab_nn (c : Int) : 0 ≤ ab c := by unfold ab; split <;> omega
/-- the rest before the i-th limit -/
def dRest (c : Int) (ls : List Int) : Nat → Int
  | 0 => ab c
  | i + 1 => if 1000000000000000000 ≤ ab c ∧ ls.getD i 0 ≤ dRest c ls i then dRest c ls i / ls.getD i 0 else dRest c ls i
def dMix (c : Int) (i : Nat) : Int := ((ab c * 48271 + (0 + (i : Int) + 1) * 69621) % 2147483647 * 16807 + (0 + (i : Int) + 1) * 40692) % 2147483399
/-- the i-th number drawn -/
def dVal (c : Int) (ls : List Int) (i : Nat) : Int :=
  if 1000000000000000000 ≤ ab c ∧ ls.getD i 0 ≤ dRest c ls i then dRest c ls i % ls.getD i 0 else dMix c i % ls.getD i 0
def draw (c : Int) (ls : List Int) : List Int := (List.range ls.length).map (dVal c ls)
theorem dVal_nn (c : Int) (ls : List Int) (i : Nat) (h : 0 < ls.getD i 0) : 0 ≤ dVal c ls i ∧ dVal c ls i < ls.getD i 0 := by
  unfold dVal
  by_cases hh : 1000000000000000000 ≤ ab c ∧ ls.getD i 0 ≤ dRest c ls i
  · rw [if_pos hh]
    exact ⟨Int.emod_nonneg _ (by omega), Int.emod_lt_of_pos _ h⟩
  · rw [if_neg hh]
    exact ⟨Int.emod_nonneg _ (by omega), Int.emod_lt_of_pos _ h⟩
theorem dRest_sz {c : Int} (ls : List Int) (h : Sz 1048600 c) : ∀ i, Sz 1048600 (dRest c ls i)
  | 0 => h.absv
  | i + 1 => by
    unfold dRest
    by_cases hh : 1000000000000000000 ≤ ab c ∧ ls.getD i 0 ≤ dRest c ls i
    · rw [if_pos hh]; exact (dRest_sz ls h i).div
    · rw [if_neg hh]; exact dRest_sz ls h i
theorem dRest_nn (c : Int) (ls : List Int) (h : ∀ z ∈ ls, 0 < z) : ∀ i, 0 ≤ dRest c ls i
  | 0 => ab_nn c
  | i + 1 => by
    have ih := dRest_nn c ls h i
    unfold dRest
    by_cases hh : 1000000000000000000 ≤ ab c ∧ ls.getD i 0 ≤ dRest c ls i
    · rw [if_pos hh, List.getD_eq_getElem?_getD]
      cases e : ls[i]? with
      | none => simp
      | some z => exact Int.ediv_nonneg ih (Int.le_of_lt (h z (List.mem_of_getElem? e)))
    · rw [if_neg hh]; exact ih
@[irreducible] def sp__law_draw (K : PySem.W.Frag) : Sp := fun vs H Q _ => ∃ (c : Int) (p : Addr) (ls : List Int), vs = [.int c, .ref p] ∧ SqL K H p (ls.map V.int) ∧ Sz 1048600 c ∧ (∀ z ∈ ls, 0 < z ∧ Sz 64 z) ∧ ls.length ≤ 1000 ∧
  ∀ r H', Same H H' → H r = none → H' r = some (.lst ((draw c ls).map V.int)) → Q (.ref r) H'
theorem ok__law_draw (T : Txt w K mg) : FnOk P w K mg base (L2.CX P w) 1 T.a__law_draw T.fd__law_draw ["cell", "limits"] (sp__law_draw K) := by
  refine T.F__law_draw.ok sc__law_draw (fun vs H Q E h => ?_) (fun cdv A outer s H vs Q E hr h => ?_)
  · unfold sp__law_draw at h
    obtain ⟨c, p, ls, rfl, _⟩ := h
    rfl
  · unfold sp__law_draw at h
    obtain ⟨c, p, ls, rfl, hp, hc, hl, hn, q⟩ := h
    refine ⟨_, (pss_cons (ps_set (i := 2) sc__law_draw.nd rfl (Or.inl rfl) (pe_lst pa_nil))
    (pss_cons (ps_set (i := 3) sc__law_draw.nd rfl (Or.inl rfl) (pe_callB call_abs rfl T.z_abs bt_abs (pa_cons (pv 0) pa_nil)))
    (pss_cons (ps_set (i := 4) sc__law_draw.nd rfl (Or.inl rfl) (pe_cmpR op_ge (pv 3) pe_int (nomark _)))
    (pss_cons (ps_for (passes_of rfl) rfl (pi_range1 rfl T.z_range (pa_cons (pe_callB call_ln rfl T.z_len bt_len (pa_cons (pv 1) pa_nil)) pa_nil)) (pg_name (i := 5) sc__law_draw.nd rfl (Or.inl rfl))
      (pss_one (ps_if (PW.pt (pw_and (pt_val (pv 4)) (pw_and1 (pt_cmpR op_ge (pv 3) (pe_ix ix_list (pv 1) (pv 5) (fun _ _ => rfl)) (nomark _))))) (pss_cons (ps_expr (pe_bm PySem.F.plainAttrs_list PySem.F.slot_list_append PySem.F.type_list_append mt_app (pv 2) (pa_cons (pe_op op_mod (pe_callTy call_int1 rfl T.z_int bt_int (pa_cons (pv 3) pa_nil)) (pe_ix ix_list (pv 1) (pv 5) (fun _ _ => rfl))) pa_nil)))
        (pss_one (ps_set (i := 3) sc__law_draw.nd rfl (Or.inl rfl) (pe_op op_fdivB (pv 3) (pe_ix ix_list (pv 1) (pv 5) (fun _ _ => rfl)))))) (pss_cons (ps_set (i := 6) sc__law_draw.nd rfl (Or.inl rfl) (pe_op op_mod (pe_callTy call_int1 rfl T.z_int bt_int (pa_cons (pe_op op_add (pe_op op_mulB (pe_callB call_abs rfl T.z_abs bt_abs (pa_cons (pv 0) pa_nil)) pe_int) (pe_op op_mulB (pe_op op_add (pv 5) pe_int) pe_int)) pa_nil)) pe_int))
        (pss_cons (ps_set (i := 6) sc__law_draw.nd rfl (Or.inl rfl) (pe_op op_mod (pe_callTy call_int1 rfl T.z_int bt_int (pa_cons (pe_op op_add (pe_op op_mulB (pv 6) pe_int) (pe_op op_mulB (pe_op op_add (pv 5) pe_int) pe_int)) pa_nil)) pe_int))
        (pss_one (ps_expr (pe_bm PySem.F.plainAttrs_list PySem.F.slot_list_append PySem.F.type_list_append mt_app (pv 2) (pa_cons (pe_op op_mod (pe_callTy call_int1 rfl T.z_int bt_int (pa_cons (pv 6) pa_nil)) (pe_ix ix_list (pv 1) (pv 5) (fun _ _ => rfl))) pa_nil)))))))))
    (pss_one (ps_ret (pv 2))))))), ?_⟩
    walk_at "rd"
    rename_i r nr
    rw [map_len]
    have hpos : ∀ i, i < ls.length → 0 < ls.getD i 0 ∧ Sz 64 (ls.getD i 0) := fun i hi => by
      rw [List.getD_eq_getElem?_getD, List.getElem?_eq_getElem hi]
      exact hl _ (List.getElem_mem hi)
    refine ⟨by omega, by omega, for_range (n := ls.length) (fun i σ H' => ∃ k m : Option V, σ = [some (.int c), some (.ref p), some (.ref r), some (.int (dRest c ls i)), some (.bl (decide (1000000000000000000 ≤ ab c))), k, m] ∧ Same H H' ∧ H' r = some (.lst (((List.range i).map (dVal c ls)).map V.int)))
      ⟨none, none, rfl, same_new (Same.refl H) nr, upd_same⟩ ?_ ?_⟩
    · rintro i σ H' hi ⟨k, m, rfl, s1, e1⟩
      have hp' := same_lst s1 hp
      have hx := hpos i hi
      have hle : i < 1000 := by omega
      have hzr := dRest_sz ls hc i
      have hab : Sz 1048600 (if c < 0 then -c else c) := hc.absv
      have hmi : Sz 64 (dMix c i) := ⟨by unfold dMix; omega⟩
      walk_at "rd"
      have hlen : (((List.range i).map (dVal c ls)).map V.int).length < sizeLine := by
        rw [List.length_map, List.length_map, List.length_range, sizeLine_eq]
        omega
      have hi62 : Sz 12 (0 + (i : Int)) := ⟨by omega⟩
      have fin : ∀ (y ρ : Int) (k' m' : Option V), dVal c ls i = y → dRest c ls (i + 1) = ρ → ∃ k'' m'' : Option V, [some (V.int c), some (.ref p), some (.ref r), some (.int ρ), some (.bl (decide (1000000000000000000 ≤ ab c))), k', m'] = [some (.int c), some (.ref p), some (.ref r), some (.int (dRest c ls (i + 1))), some (.bl (decide (1000000000000000000 ≤ ab c))), k'', m''] ∧ Same H (upd H' r (.lst (((List.range i).map (dVal c ls)).map V.int ++ [.int y]))) ∧ upd H' r (.lst (((List.range i).map (dVal c ls)).map V.int ++ [.int y])) r = some (.lst (((List.range (i + 1)).map (dVal c ls)).map V.int)) := fun y ρ k' m' e1 e2 =>
        ⟨k', m', by rw [e2], same_set s1 nr, by rw [upd_same, range_snoc e1]⟩
      have hix : atI (ls.map V.int) (0 + ((i : Nat) : Int)) = some (V.int (ls.getD i 0)) := atI_map hi
      have hx1 := hx.1
      have hx2 := hx.2
      refine iteD (fun hg => ?_) (fun hg => ?_)
      · walk_at "rd"
        refine iteD (fun hge => ?_) (fun hge => ?_)
        · have a1 : dVal c ls i = dRest c ls i % ls.getD i 0 := if_pos ⟨hg, hge⟩
          have a2 : dRest c ls (i + 1) = dRest c ls i / ls.getD i 0 := if_pos ⟨hg, hge⟩
          have cd := CD.of (i := dRest c ls i) hx.1 hx.2
          have hp'' := same_lst (same_set (o := .lst (((List.range i).map (dVal c ls)).map V.int ++ [.int (dRest c ls i % ls.getD i 0)])) s1 nr) hp
          walk_at "rd"
          exact fin _ _ _ _ a1 a2
        · have a1 : dVal c ls i = dMix c i % ls.getD i 0 := if_neg fun z => hge z.2
          have a2 : dRest c ls (i + 1) = dRest c ls i := if_neg fun z => hge z.2
          walk_at "rd"
          exact fin _ _ _ _ a1 a2
      · have a1 : dVal c ls i = dMix c i % ls.getD i 0 := if_neg fun z => hg z.1
        have a2 : dRest c ls (i + 1) = dRest c ls i := if_neg fun z => hg z.1
        walk_at "rd"
        exact fin _ _ _ _ a1 a2
    · rintro σ H' ⟨k, m, rfl, s1, e1⟩
      walk_at "rd"
      exact q r H' s1 nr e1
theorem draw_go2 {H : Hp} {Q : VK} {E : XK} {c : Int} {p : Addr} {ls : List Int} (hp : SqL K H p (ls.map V.int)) (hc : Sz 1048600 c) (hl : ∀ z ∈ ls, 0 < z ∧ Sz 64 z) (hn : ls.length ≤ 1000)
    (q : ∀ r H', Same H H' → H r = none → H' r = some (.lst ((draw c ls).map V.int)) → Q (.ref r) H') : sp__law_draw K [.int c, .ref p] H Q E := by
  unfold sp__law_draw
  exact ⟨c, p, ls, rfl, hp, hc, hl, hn, q⟩
theorem draw_go {H : Hp} {Q : VK} {E : XK} {c : Int} {p : Addr} {ls : List Int} (hp : SqL K H p (ls.map V.int)) (hc : Sz 1048576 c) (hl : ∀ z ∈ ls, 0 < z ∧ Sz 64 z) (hn : ls.length ≤ 1000)
    (q : ∀ r H', Same H H' → H r = none → H' r = some (.lst ((draw c ls).map V.int)) → Q (.ref r) H') : sp__law_draw K [.int c, .ref p] H Q E := draw_go2 hp (hc.mono (by decide)) hl hn q
theorem draw_rep {c v : Int} (n : Nat) (hv : 0 < v) : (draw c (List.replicate n v)).length = n ∧ ∀ z ∈ draw c (List.replicate n v), 0 ≤ z ∧ z < v := by
  unfold draw
  refine ⟨by rw [List.length_map, List.length_range, List.length_replicate], fun z hz => ?_⟩
  obtain ⟨i, hi, rfl⟩ := List.mem_map.mp hz
  rw [List.mem_range, List.length_replicate] at hi
  have e : (List.replicate n v).getD i 0 = v := by
    rw [List.getD_eq_getElem?_getD, List.getElem?_replicate, if_pos hi]
    rfl
  have h2 := dVal_nn c (List.replicate n v) i (by rw [e]; exact hv)
  rw [e] at h2
  exact h2
/-- n numbers below v -/
theorem draw_rep_go2 {H : Hp} {Q : VK} {E : XK} {c v : Int} {n : Nat} {p : Addr} (hp : H p = some (.lst ((List.range n).map fun _ => .int v))) (hc : Sz 1048600 c) (hv : 0 < v) (hv2 : v < 18446744073709551616) (hn : n ≤ 1000)
    (q : ∀ (r : Addr) (ds : List Int) (H' : Hp), Same H H' → H r = none → H' r = some (.lst (ds.map V.int)) → ds.length = n → (∀ z ∈ ds, 0 ≤ z ∧ z < v) → Q (.ref r) H') : sp__law_draw K [.int c, .ref p] H Q E := by
  rw [range_rep] at hp
  have := draw_rep (c := c) n hv
  refine draw_go2 (l_of hp) hc (fun z hz => ?_) (by rw [List.length_replicate]; exact hn) fun r H' s hr e => q r _ H' s hr e this.1 this.2
  rw [List.mem_replicate] at hz
  rw [hz.2]
  exact ⟨hv, ⟨by omega⟩⟩
theorem draw_rep_go {H : Hp} {Q : VK} {E : XK} {c v : Int} {n : Nat} {p : Addr} (hp : H p = some (.lst ((List.range n).map fun _ => .int v))) (hc : Sz 1048576 c) (hv : 0 < v) (hv2 : v < 18446744073709551616) (hn : n ≤ 1000)
    (q : ∀ (r : Addr) (ds : List Int) (H' : Hp), Same H H' → H r = none → H' r = some (.lst (ds.map V.int)) → ds.length = n → (∀ z ∈ ds, 0 ≤ z ∧ z < v) → Q (.ref r) H') : sp__law_draw K [.int c, .ref p] H Q E := draw_rep_go2 hp (hc.mono (by decide)) hv hv2 hn q
theorem lims_ok {ls : List Int} (h : ls.all (fun z => decide (0 < z) && decide (z < 18446744073709551616)) = true) : ∀ z ∈ ls, 0 < z ∧ Sz 64 z := fun z hz => by
  have h1 := Bool.and_eq_true_iff.mp (List.all_eq_true.mp h z hz)
  have h2 := of_decide_eq_true h1.1
  have h3 := of_decide_eq_true h1.2
  exact ⟨h2, ⟨by omega⟩⟩
/-- each below its limit -/
def WB : List Int → List Int → Prop
  | ds, [] => ds = []
  | ds, l :: ls => ∃ z r, ds = z :: r ∧ 0 ≤ z ∧ z < l ∧ WB r ls
theorem wb_of : ∀ {ls ds : List Int}, ds.length = ls.length → (∀ i, i < ls.length → 0 ≤ ds.getD i 0 ∧ ds.getD i 0 < ls.getD i 0) → WB ds ls
  | [], ds, h, _ => List.length_eq_zero_iff.mp h
  | l :: ls, [], h, _ => by cases h
  | l :: ls, z :: r, h, b => by
    have b0 := b 0 (Nat.succ_pos _)
    exact ⟨z, r, rfl, b0.1, b0.2, wb_of (by simpa using h) fun i hi => b (i + 1) (Nat.succ_lt_succ hi)⟩
theorem draw_wb {c : Int} {ls : List Int} (h : ∀ z ∈ ls, 0 < z) : WB (draw c ls) ls := by
  refine wb_of (by unfold draw; rw [List.length_map, List.length_range]) fun i hi => ?_
  have hm : ls.getD i 0 ∈ ls := by
    rw [List.getD_eq_getElem?_getD, List.getElem?_eq_getElem hi]
    exact List.getElem_mem _
  have e : (draw c ls).getD i 0 = dVal c ls i := by
    unfold draw
    rw [List.getD_eq_getElem?_getD, List.getElem?_map, List.getElem?_range hi]
    rfl
  rw [e]
  exact dVal_nn c ls i (h _ hm)
theorem draw_goW {H : Hp} {Q : VK} {E : XK} {c : Int} {p : Addr} {ls : List Int} (hp : SqL K H p (ls.map V.int)) (hc : Sz 1048600 c) (hl : ∀ z ∈ ls, 0 < z ∧ Sz 64 z) (hn : ls.length ≤ 1000)
    (q : ∀ r ds H', Same H H' → H r = none → H' r = some (.lst (ds.map V.int)) → WB ds ls → Q (.ref r) H') : sp__law_draw K [.int c, .ref p] H Q E :=
  draw_go2 hp hc hl hn fun r H' s hr e => q r _ H' s hr e (draw_wb fun z hz => (hl z hz).1)
theorem wb_len : ∀ {ls ds : List Int}, WB ds ls → ds.length = ls.length
  | [], ds, h => by rw [show ds = [] from h]
  | l :: ls, ds, h => by
    obtain ⟨z, r, rfl, _, _, h⟩ := h
    rw [List.length_cons, List.length_cons, wb_len h]
theorem wb_nn : ∀ {ls ds : List Int}, WB ds ls → ∀ z ∈ ds, 0 ≤ z
  | [], ds, h, z, hz => by rw [show ds = [] from h] at hz; cases hz
  | l :: ls, ds, h, z, hz => by
    obtain ⟨y, r, rfl, h0, _, h⟩ := h
    rcases List.mem_cons.mp hz with e | e
    · rw [e]; exact h0
    · exact wb_nn h z e

/-! ### _law_order -/
def kindsV : List V := [.str "fees", .str "interest", .str "principal"]
/-- the orders of the three kinds -/
def ordOf (k : Int) : List Str := if k = 0 then ["fees", "interest", "principal"] else if k = 1 then ["fees", "principal", "interest"] else if k = 2 then ["interest", "fees", "principal"] else if k = 3 then ["interest", "principal", "fees"] else if k = 4 then ["principal", "fees", "interest"] else ["principal", "interest", "fees"]
@[irreducible] def sp__law_order : Sp := fun vs H Q E => ∃ (k : Int), vs = [.int k] ∧ 0 ≤ k ∧ k < 6 ∧ (∀ p H', Same H H' → H' p = some (.tup ((ordOf k).map V.str)) → Q (.ref p) H')
theorem ok__law_order (T : Txt w K mg) : FnOk P w K mg base (L2.CX P w) 1 T.a__law_order T.fd__law_order ["k"] sp__law_order := by
  refine T.F__law_order.ok sc__law_order (fun vs H Q E h => ?_) (fun cdv A outer s H vs Q E hr h => ?_)
  · unfold sp__law_order at h
    obtain ⟨k, rfl, _⟩ := h
    rfl
  · unfold sp__law_order at h
    obtain ⟨k, rfl, k0, k1, q⟩ := h
    refine ⟨_, (pss_cons (ps_set (i := 1) sc__law_order.nd rfl (Or.inl rfl) (pe_lst (pa_cons pe_str (pa_cons pe_str (pa_cons pe_str pa_nil)))))
    (pss_cons (ps_set (i := 2) sc__law_order.nd rfl (Or.inr rfl) (pe_ix ix_list (pv 1) (pe_op op_fdivB (pv 0) pe_int) (fun _ _ => rfl)))
    (pss_cons (ps_setLc (i := 3) (own := [("kind", 4)])  rfl sc__law_order.nd rfl rfl (sw_true rfl rfl rfl (by decide +kernel)) (pi_list (pv 1)) (blkOk_by (own := [("kind", 4)]) (N := ["k", "kinds", "first", "rest", "kind"]) (sc := defScope s__law_order) (by decide +kernel)) (fun _ _ _ _ _ => (pg_name (i := 4) sc__law_order.nd rfl (Or.inl rfl))) (fun _ _ _ _ _ => (pts_one (pt_cmpR op_ne (pv 4) (pv 2) (nomark _)))) (fun _ _ _ _ _ => (pv 4)))
    (pss_cons (ps_cut (ps_if (pt_cmpR op_eq (pe_op op_mod (pe_callTy call_int1 rfl T.z_int bt_int (pa_cons (pv 0) pa_nil)) pe_int) pe_int (nomark _)) (pss_one (ps_set (i := 3) sc__law_order.nd rfl (Or.inl rfl) (pe_lst (pa_cons (pe_ix ix_list (pv 3) pe_int (fun _ _ => rfl)) (pa_cons (pe_ix ix_list (pv 3) pe_int (fun _ _ => rfl)) pa_nil))))) pss_nil))
    (pss_one (ps_ret (pe_tup (pa_cons (pv 2) (pa_cons (pe_ix ix_list (pv 3) pe_int (fun _ _ => rfl)) (pa_cons (pe_ix ix_list (pv 3) pe_int (fun _ _ => rfl)) pa_nil)))))))))), ?_⟩
    obtain ⟨f, hf⟩ : ∃ f : Str, atI kindsV (k / 2) = some (.str f) := by
      have h : k = 0 ∨ k = 1 ∨ k = 2 ∨ k = 3 ∨ k = 4 ∨ k = 5 := by omega
      rcases h with rfl | rfl | rfl | rfl | rfl | rfl <;> exact ⟨_, rfl⟩
    have cd : CD k 2 := ⟨by decide, by decide⟩
    walk_at "rd"
    rename_i p0 n0
    have hK : SqL K (upd H p0 (.lst kindsV)) p0 kindsV := l_of upd_same
    refine ⟨⟨_, hK⟩, fun D nD => lc_filV (xs := kindsV) (fun x => !decide (x = .str f)) nD hK (by rw [sizeLine_eq]; exact Nat.le_of_ble_eq_true (by rfl)) (fun x hx H2 N acc eD hacc y1 y2 => ?_) ?_⟩
    · obtain ⟨z, rfl⟩ : ∃ z, x = .str z := by
        simp only [kindsV, List.mem_cons, List.not_mem_nil, or_false] at hx
        rcases hx with rfl | rfl | rfl <;> exact ⟨_, rfl⟩
      walk_at "rd"
      refine iteSN (fun c => ?_) (fun c => ?_)
      · walk_at "rd"
        exact ⟨acc, eD, hacc, y1 (by simp [c])⟩
      · exact y2 (by simp [c])
    have rest : ∃ r1 r2 : Str, kindsV.filter (fun x => !decide (x = .str f)) = [.str r1, .str r2] ∧ (if k % 2 = 1 then [f, r2, r1] else [f, r1, r2]) = ordOf k := by
      have h : k = 0 ∨ k = 1 ∨ k = 2 ∨ k = 3 ∨ k = 4 ∨ k = 5 := by omega
      rcases h with rfl | rfl | rfl | rfl | rfl | rfl <;> (cases hf; exact ⟨_, _, rfl, rfl⟩)
    obtain ⟨r1, r2, er, eo⟩ := rest
    rw [er]
    have s1 : Same H (upd (upd H p0 (.lst kindsV)) D (.lst [.str r1, .str r2])) := same_new (same_new (Same.refl H) n0) nD
    have eD : (upd (upd H p0 (.lst kindsV)) D (.lst [.str r1, .str r2])) D = some (.lst [.str r1, .str r2]) := upd_same
    refine ⟨fun σ' H' => Wall (∃ (D' : Addr) (a b : Str), Same H H' ∧ H' D' = some (.lst [.str a, .str b]) ∧ σ' = [some (.int k), some (.ref p0), some (.str f), some (.ref D'), none] ∧ [f, a, b] = ordOf k), ?_, ?_⟩
    · walk_at "rd"
      refine iteI (fun c => ?_) (fun c => ?_)
      · have L := l_of (K := K) eD
        walk_at "rd"
        rename_i p2 n2
        rw [if_pos c] at eo
        exact wall ⟨p2, r2, r1, same_new s1 n2, upd_same, rfl, eo⟩
      · rw [if_neg c] at eo
        exact wall ⟨D, r1, r2, s1, eD, rfl, eo⟩
    rintro σ' H' ⟨w1⟩
    obtain ⟨D', a, b, s2, e2, rfl, eo2⟩ := w1 trivial
    have L := l_of (K := K) e2
    walk_at "rd"
    rename_i p3 n3
    refine q p3 _ (same_new s2 n3) (upd_same.trans ?_)
    rw [← eo2]
    rfl
theorem _law_order_go {H : Hp} {Q : VK} {E : XK} {k : Int} (k0 : 0 ≤ k) (k1 : k < 6) (q : ∀ p H', Same H H' → H' p = some (.tup ((ordOf k).map V.str)) → Q (.ref p) H') : sp__law_order [.int k] H Q E := by
  unfold sp__law_order
  exact ⟨k, rfl, k0, k1, q⟩

/-! ### _law_fields -/
theorem bitmul {a b n : Int} (h0 : 0 ≤ a) (h1 : a < n) (h2 : 0 ≤ b) (h3 : b < 2) : 0 ≤ a * b ∧ a * b < n := by
  obtain rfl | rfl : b = 0 ∨ b = 1 := by omega
  · rw [Int.mul_zero]; omega
  · rw [Int.mul_one]; omega
theorem conv_at {i : Int} (h0 : 0 ≤ i) (h : i < 4) : ∃ z : Str, atI [V.str "actual/365", V.str "actual/360", V.str "30/360", V.str "actual/actual"] i = some (.str z) ∧ partsOf z ≠ none ∧ z.length ≤ 1000000 := by
  obtain rfl | rfl | rfl | rfl : i = 0 ∨ i = 1 ∨ i = 2 ∨ i = 3 := by omega
  all_goals exact ⟨_, rfl, by decide +kernel, Nat.le_of_ble_eq_true (by rfl)⟩
theorem mode_at {i : Int} (h0 : 0 ≤ i) (h : i < 4) : ∃ z : Str, atI [V.str "near", V.str "down", V.str "up", V.str "even"] i = some (.str z) ∧ isModeT z = true ∧ z.length ≤ 1000000 := by
  obtain rfl | rfl | rfl | rfl : i = 0 ∨ i = 1 ∨ i = 2 ∨ i = 3 := by omega
  all_goals exact ⟨_, rfl, by decide +kernel, Nat.le_of_ble_eq_true (by rfl)⟩
theorem scheme_at {i : Int} (h0 : 0 ≤ i) (h : i < 3) : ∃ z : Str, atI [V.str "annuity", V.str "equal", V.str "bullet"] i = some (.str z) ∧ isSchemeT z = true ∧ z.length ≤ 1000000 := by
  obtain rfl | rfl | rfl : i = 0 ∨ i = 1 ∨ i = 2 := by omega
  all_goals exact ⟨_, rfl, by decide +kernel, Nat.le_of_ble_eq_true (by rfl)⟩
theorem everyF_at {i : Int} (h0 : 0 ≤ i) (h : i < 6) : ∃ z : Int, atI [V.int 1, V.int 2, V.int 3, V.int 4, V.int 6, V.int 12] i = some (.int z) ∧ isEveryT z = true := by
  obtain rfl | rfl | rfl | rfl | rfl | rfl : i = 0 ∨ i = 1 ∨ i = 2 ∨ i = 3 ∨ i = 4 ∨ i = 5 := by omega
  all_goals exact ⟨_, rfl, by decide +kernel⟩
theorem ruleF_at {i : Int} (h0 : 0 ≤ i) (h : i < 4) : ∃ z : Str, atI [V.str "none", V.str "following", V.str "preceding", V.str "modified"] i = some (.str z) ∧ isRuleT z = true ∧ z.length ≤ 1000000 := by
  obtain rfl | rfl | rfl | rfl : i = 0 ∨ i = 1 ∨ i = 2 ∨ i = 3 := by omega
  all_goals exact ⟨_, rfl, by decide +kernel, Nat.le_of_ble_eq_true (by rfl)⟩
theorem four_at {a b c d i : Int} (h0 : 0 ≤ i) (h : i < 4) (ha : 0 ≤ a ∧ a ≤ 1000000) (hb : 0 ≤ b ∧ b ≤ 1000000) (hc : 0 ≤ c ∧ c ≤ 1000000) (hd : 0 ≤ d ∧ d ≤ 1000000) : ∃ z : Int, atI [V.int a, V.int b, V.int c, V.int d] i = some (.int z) ∧ 0 ≤ z ∧ z ≤ 1000000 := by
  obtain rfl | rfl | rfl | rfl : i = 0 ∨ i = 1 ∨ i = 2 ∨ i = 3 := by omega
  · exact ⟨_, rfl, ha⟩
  · exact ⟨_, rfl, hb⟩
  · exact ⟨_, rfl, hc⟩
  · exact ⟨_, rfl, hd⟩
theorem calN (i : Int) (h0 : 0 ≤ i) (h : i < 12) : nameB ("c" ++ (toString i : Str)) = true ∧ ("c" ++ (toString i : Str) : Str).length ≤ 1000000 := by
  have h : i = 0 ∨ i = 1 ∨ i = 2 ∨ i = 3 ∨ i = 4 ∨ i = 5 ∨ i = 6 ∨ i = 7 ∨ i = 8 ∨ i = 9 ∨ i = 10 ∨ i = 11 := by omega
  rcases h with rfl | rfl | rfl | rfl | rfl | rfl | rfl | rfl | rfl | rfl | rfl | rfl <;> exact ⟨by decide +kernel, by decide +kernel⟩
theorem ord_ok {k : Int} (h0 : 0 ≤ k) (h : k < 6) : (ordOf k).Perm usualO ∧ (ordOf k).length ≤ 60 ∧ (ordOf k).all okS = true := by
  obtain rfl | rfl | rfl | rfl | rfl | rfl : k = 0 ∨ k = 1 ∨ k = 2 ∨ k = 3 ∨ k = 4 ∨ k = 5 := by omega
  all_goals exact ⟨by decide +kernel, by decide +kernel, by decide +kernel⟩
theorem nameB_len {z : Str} (h : nameB z = true) : z.length ≤ 1000000 := by
  have := (nameB_iff.mp h).2.1
  omega
theorem ixN36 (i : Int) (h0 : 0 ≤ i) (h : i < 36) : nameB ("x" ++ (toString i : Str)) = true := by
  obtain ⟨n, rfl⟩ : ∃ n : Nat, i = n := ⟨i.toNat, by omega⟩
  have : ∀ n : Nat, n < 36 → nameB ("x" ++ (toString (n : Int) : Str)) = true := by decide +kernel
  exact this n (by omega)
@[irreducible] def sp__law_fields : Sp := fun vs H Q E => ∃ (c : Int) (nm : Str), vs = [.int c, .str nm] ∧ Sz 1048590 c ∧ nameB nm = true ∧ (∀ p H' t os, Same H H' → H p = none → TermD H' p t os → t.name = nm → Q (.ref p) H')
theorem ok__law_fields (T : Txt w K mg) : FnOk P w K mg base (L2.CX P w) 2 T.a__law_fields T.fd__law_fields ["cell", "name"] sp__law_fields := by
  refine T.F__law_fields.ok sc__law_fields (fun vs H Q E h => ?_) (fun cdv A outer s H vs Q E hr h => ?_)
  · unfold sp__law_fields at h
    obtain ⟨c, nm, rfl, _⟩ := h
    rfl
  · unfold sp__law_fields at h
    obtain ⟨c, nm, rfl, cs, hnm, q⟩ := h
    refine ⟨_, (pss_cons (ps_set (i := 2) sc__law_fields.nd rfl (Or.inl rfl) (pe_callS (ok__law_draw T) (hr.mono (by decide)) rfl T.m__law_draw T.F__law_draw.kp T.b__law_draw (fun σ => passAt (takes_of rfl rfl rfl rfl) σ) (pa_cons (pv 0) (pa_cons (pe_lst (pa_cons pe_int (pa_cons pe_int (pa_cons pe_int (pa_cons pe_int (pa_cons pe_int (pa_cons pe_int (pa_cons pe_int (pa_cons pe_int (pa_cons pe_int (pa_cons pe_int (pa_cons pe_int (pa_cons pe_int (pa_cons pe_int (pa_cons pe_int (pa_cons pe_int pa_nil)))))))))))))))) pa_nil))))
    (pss_cons (ps_set (i := 3) sc__law_fields.nd rfl (Or.inl rfl) (pe_callS (ok__law_draw T) (hr.mono (by decide)) rfl T.m__law_draw T.F__law_draw.kp T.b__law_draw (fun σ => passAt (takes_of rfl rfl rfl rfl) σ) (pa_cons (pe_op op_add (pv 0) pe_int) (pa_cons (pe_lst (pa_cons pe_int (pa_cons pe_int (pa_cons pe_int (pa_cons pe_int (pa_cons pe_int (pa_cons pe_int (pa_cons pe_int (pa_cons pe_int (pa_cons pe_int pa_nil)))))))))) pa_nil))))
    (pss_cons (ps_set (i := 4) sc__law_fields.nd rfl (Or.inl rfl) (pe_disp (pps_cons pe_str (pv 1) (pps_cons pe_str (pe_op op_add pe_int (pe_ix ix_list (pv 2) pe_int (fun _ _ => rfl))) (pps_cons pe_str pe_int (pps_cons pe_str pe_int (pps_cons pe_str pe_str (pps_cons pe_str pe_str (pps_cons pe_str pe_str pps_nil))))))) (by rfl) (by rfl) (fun z => by cases z) (by decide)))
    (pss_cons (ps_dput (hu_of hr) (pv 4) pe_str (pe_ix ix_list (pv 2) pe_int (fun _ _ => rfl)) rfl)
    (pss_cons (ps_dput (hu_of hr) (pv 4) pe_str pe_int rfl)
    (pss_cons (ps_dput (hu_of hr) (pv 4) pe_str pe_int rfl)
    (pss_cons (ps_dput (hu_of hr) (pv 4) pe_str (pe_ix ix_list (pe_lst (pa_cons pe_str (pa_cons pe_str (pa_cons pe_str (pa_cons pe_str pa_nil))))) (pe_op op_mulB (pe_ix ix_list (pv 2) pe_int (fun _ _ => rfl)) (pe_op op_mod (pe_callTy call_int1 rfl T.z_int bt_int (pa_cons (pe_ix ix_list (pv 3) pe_int (fun _ _ => rfl)) pa_nil)) pe_int)) (fun _ _ => rfl)) rfl)
    (pss_cons (ps_dput (hu_of hr) (pv 4) pe_str (pe_ix ix_list (pe_lst (pa_cons pe_str (pa_cons pe_str (pa_cons pe_str (pa_cons pe_str pa_nil))))) (pe_op op_mulB (pe_ix ix_list (pv 2) pe_int (fun _ _ => rfl)) (pe_op op_mod (pe_op op_fdivB (pe_callTy call_int1 rfl T.z_int bt_int (pa_cons (pe_ix ix_list (pv 3) pe_int (fun _ _ => rfl)) pa_nil)) pe_int) pe_int)) (fun _ _ => rfl)) rfl)
    (pss_cons (ps_dput (hu_of hr) (pv 4) pe_str (pe_ix ix_list (pe_lst (pa_cons pe_str (pa_cons pe_str (pa_cons pe_str pa_nil)))) (pe_ix ix_list (pv 2) pe_int (fun _ _ => rfl)) (fun _ _ => rfl)) rfl)
    (pss_cons (ps_dput (hu_of hr) (pv 4) pe_str (pe_op op_mulB (pe_op op_mod (pe_callTy call_int1 rfl T.z_int bt_int (pa_cons (pe_ix ix_list (pv 2) pe_int (fun _ _ => rfl)) pa_nil)) (pe_dget (hu_of hr) (pv 4) pe_str (fun _ _ => rfl))) (pe_op op_mod (pe_op op_fdivB (pe_callTy call_int1 rfl T.z_int bt_int (pa_cons (pe_ix ix_list (pv 3) pe_int (fun _ _ => rfl)) pa_nil)) pe_int) pe_int)) rfl)
    (pss_cons (ps_cut (ps_if (pt_cmpR op_eq (pe_op op_mod (pe_op op_fdivB (pe_callTy call_int1 rfl T.z_int bt_int (pa_cons (pe_ix ix_list (pv 3) pe_int (fun _ _ => rfl)) pa_nil)) pe_int) pe_int) pe_int (nomark _)) (pss_one (ps_dput (hu_of hr) (pv 4) pe_str (pe_ix ix_list (pe_lst (pa_cons pe_int (pa_cons pe_int (pa_cons pe_int (pa_cons pe_int (pa_cons pe_int (pa_cons pe_int pa_nil))))))) (pe_ix ix_list (pv 2) pe_int (fun _ _ => rfl)) (fun _ _ => rfl)) rfl)) pss_nil))
    (pss_cons (ps_cut (ps_if (pt_cmpR op_eq (pe_op op_mod (pe_op op_fdivB (pe_callTy call_int1 rfl T.z_int bt_int (pa_cons (pe_ix ix_list (pv 3) pe_int (fun _ _ => rfl)) pa_nil)) pe_int) pe_int) pe_int (nomark _)) (pss_cons (ps_dput (hu_of hr) (pv 4) pe_str (pe_op op_add pe_int (pe_ix ix_list (pv 2) pe_int (fun _ _ => rfl))) rfl)
      (pss_one (ps_cut (ps_if (pt_cmpR op_gt (pe_ix ix_list (pv 2) pe_int (fun _ _ => rfl)) pe_int (nomark _)) (pss_cons (ps_dput (hu_of hr) (pv 4) pe_str (pe_ix ix_list (pe_lst (pa_cons pe_str (pa_cons pe_str (pa_cons pe_str (pa_cons pe_str pa_nil))))) (pe_ix ix_list (pv 2) pe_int (fun _ _ => rfl)) (fun _ _ => rfl)) rfl)
        (pss_one (ps_dput (hu_of hr) (pv 4) pe_str (pe_op op_addS pe_str (pe_callTy call_strI rfl T.z_str bt_str (pa_cons (pe_ix ix_list (pv 3) pe_int (fun _ _ => rfl)) pa_nil))) rfl))) pss_nil)))) pss_nil))
    (pss_cons (ps_cut (ps_if (pt_cmpR op_eq (pe_op op_mod (pe_op op_fdivB (pe_callTy call_int1 rfl T.z_int bt_int (pa_cons (pe_ix ix_list (pv 3) pe_int (fun _ _ => rfl)) pa_nil)) pe_int) pe_int) pe_int (nomark _)) (pss_cons (ps_dput (hu_of hr) (pv 4) pe_str (pe_op op_addS pe_str (pe_callTy call_strI rfl T.z_str bt_str (pa_cons (pe_ix ix_list (pv 3) pe_int (fun _ _ => rfl)) pa_nil))) rfl)
      (pss_one (ps_cut (ps_if (pt_cmpR op_gt (pe_ix ix_list (pv 2) pe_int (fun _ _ => rfl)) pe_int (nomark _)) (pss_cons (ps_dput (hu_of hr) (pv 4) pe_str (pe_callB (call_mn rfl) rfl T.z_min bt_min (pa_cons (pe_ix ix_list (pv 2) pe_int (fun _ _ => rfl)) (pa_cons (pe_ix ix_list (pv 2) pe_int (fun _ _ => rfl)) pa_nil))) rfl)
        (pss_one (ps_dput (hu_of hr) (pv 4) pe_str (pe_callB (call_mx rfl) rfl T.z_max bt_max (pa_cons (pe_ix ix_list (pv 2) pe_int (fun _ _ => rfl)) (pa_cons (pe_ix ix_list (pv 2) pe_int (fun _ _ => rfl)) pa_nil))) rfl))) pss_nil)))) pss_nil))
    (pss_cons (ps_cut (ps_if (pt_cmpR op_eq (pe_op op_mod (pe_op op_fdivB (pe_callTy call_int1 rfl T.z_int bt_int (pa_cons (pe_ix ix_list (pv 3) pe_int (fun _ _ => rfl)) pa_nil)) pe_int) pe_int) pe_int (nomark _)) (pss_one (ps_dput (hu_of hr) (pv 4) pe_str (pe_ix ix_list (pe_lst (pa_cons pe_int (pa_cons pe_int (pa_cons (pe_op op_mulB (pe_op op_mod (pe_callTy call_int1 rfl T.z_int bt_int (pa_cons (pe_ix ix_list (pv 2) pe_int (fun _ _ => rfl)) pa_nil)) pe_int) pe_int) (pa_cons (pe_op op_mulB (pe_op op_mod (pe_callTy call_int1 rfl T.z_int bt_int (pa_cons (pe_ix ix_list (pv 2) pe_int (fun _ _ => rfl)) pa_nil)) pe_int) pe_int) pa_nil))))) (pe_op op_mod (pe_callTy call_int1 rfl T.z_int bt_int (pa_cons (pe_ix ix_list (pv 2) pe_int (fun _ _ => rfl)) pa_nil)) pe_int) (fun _ _ => rfl)) rfl)) pss_nil))
    (pss_cons (ps_dput (hu_of hr) (pv 4) pe_str (pe_op op_mulB (pe_ix ix_list (pv 2) pe_int (fun _ _ => rfl)) (pe_op op_mod (pe_op op_fdivB (pe_callTy call_int1 rfl T.z_int bt_int (pa_cons (pe_ix ix_list (pv 3) pe_int (fun _ _ => rfl)) pa_nil)) pe_int) pe_int)) rfl)
    (pss_cons (ps_dput (hu_of hr) (pv 4) pe_str (pe_op op_mulB (pe_ix ix_list (pv 2) pe_int (fun _ _ => rfl)) (pe_op op_mod (pe_op op_fdivB (pe_callTy call_int1 rfl T.z_int bt_int (pa_cons (pe_ix ix_list (pv 3) pe_int (fun _ _ => rfl)) pa_nil)) pe_int) pe_int)) rfl)
    (pss_cons (ps_dput (hu_of hr) (pv 4) pe_str (pe_op op_mulB (pe_ix ix_list (pv 2) pe_int (fun _ _ => rfl)) (pe_op op_mod (pe_op op_fdivB (pe_callTy call_int1 rfl T.z_int bt_int (pa_cons (pe_ix ix_list (pv 3) pe_int (fun _ _ => rfl)) pa_nil)) pe_int) pe_int)) rfl)
    (pss_cons (ps_dput (hu_of hr) (pv 4) pe_str (pe_op op_mulB (pe_ix ix_list (pv 3) pe_int (fun _ _ => rfl)) (pe_op op_mod (pe_op op_fdivB (pe_callTy call_int1 rfl T.z_int bt_int (pa_cons (pe_ix ix_list (pv 3) pe_int (fun _ _ => rfl)) pa_nil)) pe_int) pe_int)) rfl)
    (pss_cons (ps_dput (hu_of hr) (pv 4) pe_str pe_int rfl)
    (pss_cons (ps_cut (ps_if (pt_cmpR op_eq (pe_op op_mod (pe_op op_fdivB (pe_callTy call_int1 rfl T.z_int bt_int (pa_cons (pe_ix ix_list (pv 3) pe_int (fun _ _ => rfl)) pa_nil)) pe_int) pe_int) pe_int (nomark _)) (pss_one (ps_dput (hu_of hr) (pv 4) pe_str (pe_ix ix_list (pv 3) pe_int (fun _ _ => rfl)) rfl)) pss_nil))
    (pss_cons (ps_cut (ps_if (pt_cmpR op_gt (pe_dget (hu_of hr) (pv 4) pe_str (fun _ _ => rfl)) pe_int (nomark _)) (pss_one (ps_dput (hu_of hr) (pv 4) pe_str (pe_callB (call_mn rfl) rfl T.z_min bt_min (pa_cons (pe_dget (hu_of hr) (pv 4) pe_str (fun _ _ => rfl)) (pa_cons (pe_op op_sub (pe_op op_mulB pe_int (pe_dget (hu_of hr) (pv 4) pe_str (fun _ _ => rfl))) pe_int) pa_nil))) rfl)) pss_nil))
    (pss_cons (ps_dput (hu_of hr) (pv 4) pe_str (pe_op op_mulB (pe_ix ix_list (pv 3) pe_int (fun _ _ => rfl)) (pe_op op_mod (pe_op op_fdivB (pe_callTy call_int1 rfl T.z_int bt_int (pa_cons (pe_ix ix_list (pv 3) pe_int (fun _ _ => rfl)) pa_nil)) pe_int) pe_int)) rfl)
    (pss_cons (ps_dput (hu_of hr) (pv 4) pe_str (pe_op op_mulB (pe_ix ix_list (pv 3) pe_int (fun _ _ => rfl)) (pe_op op_mod (pe_op op_fdivB (pe_callTy call_int1 rfl T.z_int bt_int (pa_cons (pe_ix ix_list (pv 3) pe_int (fun _ _ => rfl)) pa_nil)) pe_int) pe_int)) rfl)
    (pss_cons (ps_dput (hu_of hr) (pv 4) pe_str (pe_callS (ok__law_order T) (hr.mono (by decide)) rfl T.m__law_order T.F__law_order.kp T.b__law_order (fun σ => passAt (takes_of rfl rfl rfl rfl) σ) (pa_cons (pe_op op_mulB (pe_ix ix_list (pv 3) pe_int (fun _ _ => rfl)) (pe_op op_mod (pe_op op_fdivB (pe_callTy call_int1 rfl T.z_int bt_int (pa_cons (pe_ix ix_list (pv 3) pe_int (fun _ _ => rfl)) pa_nil)) pe_int) pe_int)) pa_nil)) rfl)
    (pss_cons (ps_dput (hu_of hr) (pv 4) pe_str (pe_op op_mulB (pe_ix ix_list (pv 3) pe_int (fun _ _ => rfl)) (pe_op op_mod (pe_op op_fdivB (pe_callTy call_int1 rfl T.z_int bt_int (pa_cons (pe_ix ix_list (pv 3) pe_int (fun _ _ => rfl)) pa_nil)) pe_int) pe_int)) rfl)
    (pss_one (ps_ret (pv 4)))))))))))))))))))))))))))), ?_⟩
    walk_at "rd"
    rename_i pl npl
    refine draw_goW (ls := [480, 6, 31, 4, 3, 1000001, 1000001, 1000001, 4, 4, 3, 480, 1000000000001, 1001, 1000000000001]) (l_of upd_same) (cs.mono (by decide)) (lims_ok (by decide +kernel)) (by decide) fun pd ds Ha sa nra ea wa => ?_
    have sHa := (same_new (o := .lst [.int 480, .int 6, .int 31, .int 4, .int 3, .int 1000001, .int 1000001, .int 1000001, .int 4, .int 4, .int 3, .int 480, .int 1000000000001, .int 1001, .int 1000000000001]) (Same.refl H) npl).trans sa
    obtain ⟨d0, _, rfl, d0a, d0b, d1, _, rfl, d1a, d1b, d2, _, rfl, d2a, d2b, d3, _, rfl, d3a, d3b, d4, _, rfl, d4a, d4b, d5, _, rfl, d5a, d5b, d6, _, rfl, d6a, d6b, d7, _, rfl, d7a, d7b, d8, _, rfl, d8a, d8b, d9, _, rfl, d9a, d9b, d10, _, rfl, d10a, d10b, d11, _, rfl, d11a, d11b, d12, _, rfl, d12a, d12b, d13, _, rfl, d13a, d13b, d14, _, rfl, d14a, d14b, rfl⟩ := wa
    have Lda := l_of (K := K) ea
    clear sa nra npl
    walk_at "rd"
    rename_i pl2 npl2
    refine draw_goW (ls := [1000000000001, 91, 1001, 481, 6, 1000001, 65536, 12, 36]) (l_of upd_same) ((cs.add (⟨by decide⟩ : Sz 1 1)).mono (by decide)) (lims_ok (by decide +kernel)) (by decide) fun pe es Hb sb nrb eb wb => ?_
    have sab := (same_new (o := .lst [.int 1000000000001, .int 91, .int 1001, .int 481, .int 6, .int 1000001, .int 65536, .int 12, .int 36]) (Same.refl Ha) npl2).trans sb
    obtain ⟨e0, _, rfl, e0a, e0b, e1, _, rfl, e1a, e1b, e2, _, rfl, e2a, e2b, e3, _, rfl, e3a, e3b, e4, _, rfl, e4a, e4b, e5, _, rfl, e5a, e5b, e6, _, rfl, e6a, e6b, e7, _, rfl, e7a, e7b, e8, _, rfl, e8a, e8b, rfl⟩ := wb
    have Le0 := l_of (K := K) eb
    have Ld0 := same_lst sab Lda
    have sHb := sHa.trans sab
    clear sb nrb npl2 sab sHa Lda ea eb
    have B : (0 ≤ d0 ∧ d0 < 480) ∧ (0 ≤ d1 ∧ d1 < 6) ∧ (0 ≤ d2 ∧ d2 < 31) ∧ (0 ≤ d3 ∧ d3 < 4) ∧ (0 ≤ d4 ∧ d4 < 3) ∧ (0 ≤ d5 ∧ d5 < 1000001) ∧ (0 ≤ d6 ∧ d6 < 1000001) ∧ (0 ≤ d7 ∧ d7 < 1000001) ∧ (0 ≤ d8 ∧ d8 < 4) ∧ (0 ≤ d9 ∧ d9 < 4) ∧ (0 ≤ d10 ∧ d10 < 3) ∧ (0 ≤ d11 ∧ d11 < 480) ∧ (0 ≤ d12 ∧ d12 < 1000000000001) ∧ (0 ≤ d13 ∧ d13 < 1001) ∧ (0 ≤ d14 ∧ d14 < 1000000000001) ∧ (0 ≤ e0 ∧ e0 < 1000000000001) ∧ (0 ≤ e1 ∧ e1 < 91) ∧ (0 ≤ e2 ∧ e2 < 1001) ∧ (0 ≤ e3 ∧ e3 < 481) ∧ (0 ≤ e4 ∧ e4 < 6) ∧ (0 ≤ e5 ∧ e5 < 1000001) ∧ (0 ≤ e6 ∧ e6 < 65536) ∧ (0 ≤ e7 ∧ e7 < 12) ∧ (0 ≤ e8 ∧ e8 < 36) := ⟨⟨d0a, d0b⟩, ⟨d1a, d1b⟩, ⟨d2a, d2b⟩, ⟨d3a, d3b⟩, ⟨d4a, d4b⟩, ⟨d5a, d5b⟩, ⟨d6a, d6b⟩, ⟨d7a, d7b⟩, ⟨d8a, d8b⟩, ⟨d9a, d9b⟩, ⟨d10a, d10b⟩, ⟨d11a, d11b⟩, ⟨d12a, d12b⟩, ⟨d13a, d13b⟩, ⟨d14a, d14b⟩, ⟨e0a, e0b⟩, ⟨e1a, e1b⟩, ⟨e2a, e2b⟩, ⟨e3a, e3b⟩, ⟨e4a, e4b⟩, ⟨e5a, e5b⟩, ⟨e6a, e6b⟩, ⟨e7a, e7b⟩, ⟨e8a, e8b⟩⟩
    clear d0a d0b d1a d1b d2a d2b d3a d3b d4a d4b d5a d5b d6a d6b d7a d7b d8a d8b d9a d9b d10a d10b d11a d11b d12a d12b d13a d13b d14a d14b e0a e0b e1a e1b e2a e2b e3a e3b e4a e4b e5a e5b e6a e6b e7a e7b e8a e8b
    walk_at "rd"
    refine fun p np => ?_
    have Ld1 : ∀ o, SqL K (upd Hb p o) pd _ := fun o => same_lst (same_new (Same.refl Hb) np) Ld0
    walk_at "rd"
    dsimp only [tPairs, tC]
    walk_at "rd"
    refine ⟨upd_same, zK (keysL.take 7) [.str nm, .int (1 + d0), .int 1, .int 1, .str "", .str "none", .str ""], rfl, Nat.le_of_ble_eq_true rfl, ?_⟩
    have eF : (upd (upd Hb p (.dK [])) p (.dK (mergeK [] (zK (keysL.take 7) [.str nm, .int (1 + d0), .int 1, .int 1, .str "", .str "none", .str ""])))) p = some (.dK (zK (keysL.take 7) [.str nm, .int (1 + d0), .int 1, .int 1, .str "", .str "none", .str ""])) := by rw [upd_same]; rfl
    have sF : Same Hb (upd (upd Hb p (.dK [])) p (.dK (mergeK [] (zK (keysL.take 7) [.str nm, .int (1 + d0), .int 1, .int 1, .str "", .str "none", .str ""])))) := same_set (same_new (Same.refl Hb) np) np
    clear Ld1
    generalize (upd (upd Hb p (.dK [])) p (.dK (mergeK [] (zK (keysL.take 7) [.str nm, .int (1 + d0), .int 1, .int 1, .str "", .str "none", .str ""])))) = HF at *
    have LdF := same_lst sF Ld0
    have LeF := same_lst sF Le0
    walk_at "rd"
    refine dputL 7 (sF) np (eF) rfl (by decide) rfl fun H1 s1 f1 e1 => ?_
    replace e1 : H1 p = some (.dK (zK (keysL.take 8) [.str nm, .int (1 + d0), .int 1, .int 1, .str "", .str "none", .str "", .int d5])) := e1
    have Ld1 := same_lst s1 Ld0
    have Le1 := same_lst s1 Le0
    clear eF sF LdF LeF f1
    walk_at "rd"
    refine dputL 8 (s1) np (e1) rfl (by decide) rfl fun H2 s2 f2 e2 => ?_
    replace e2 : H2 p = some (.dK (zK (keysL.take 9) [.str nm, .int (1 + d0), .int 1, .int 1, .str "", .str "none", .str "", .int d5, .int 0])) := e2
    have Ld2 := same_lst s2 Ld0
    have Le2 := same_lst s2 Le0
    clear e1 s1 Ld1 Le1 f2
    walk_at "rd"
    have b6 : 0 ≤ e6 % 2 ∧ e6 % 2 < 2 := by omega
    obtain ⟨cv, hcv, hcv1, hcv2⟩ := conv_at (bitmul (a := d8) (n := 4) (by omega) (by omega) b6.1 b6.2).1 (bitmul (a := d8) (n := 4) (by omega) (by omega) b6.1 b6.2).2
    have c6 : 0 ≤ e6 / 2 % 2 ∧ e6 / 2 % 2 < 2 := by omega
    obtain ⟨md, hmd, hmd1, hmd2⟩ := mode_at (bitmul (a := d9) (n := 4) (by omega) (by omega) c6.1 c6.2).1 (bitmul (a := d9) (n := 4) (by omega) (by omega) c6.1 c6.2).2
    obtain ⟨sm, hsm, hsm1, hsm2⟩ := scheme_at (i := d10) (by omega) (by omega)
    refine dputL 9 (s2) np (e2) rfl (by decide) rfl fun H3 s3 f3 e3 => ?_
    replace e3 : H3 p = some (.dK (zK (keysL.take 10) [.str nm, .int (1 + d0), .int 1, .int 1, .str "", .str "none", .str "", .int d5, .int 0, .int 1000000])) := e3
    have Ld3 := same_lst s3 Ld0
    have Le3 := same_lst s3 Le0
    clear e2 s2 Ld2 Le2 f3
    walk_at "rd"
    rename_i q4 nq4
    refine dputL 10 (same_new s3 nq4) np (hp_upd nq4 e3) rfl (by decide) rfl fun H5 s5 f5 e5 => ?_
    replace e5 : H5 p = some (.dK (zK (keysL.take 11) [.str nm, .int (1 + d0), .int 1, .int 1, .str "", .str "none", .str "", .int d5, .int 0, .int 1000000, .str cv])) := e5
    have Ld5 := same_lst s5 Ld0
    have Le5 := same_lst s5 Le0
    clear e3 s3 Ld3 Le3 f5
    walk_at "rd"
    rename_i q6 nq6
    refine dputL 11 (same_new s5 nq6) np (hp_upd nq6 e5) rfl (by decide) rfl fun H7 s7 f7 e7 => ?_
    replace e7 : H7 p = some (.dK (zK (keysL.take 12) [.str nm, .int (1 + d0), .int 1, .int 1, .str "", .str "none", .str "", .int d5, .int 0, .int 1000000, .str cv, .str md])) := e7
    have Ld7 := same_lst s7 Ld0
    have Le7 := same_lst s7 Le0
    clear e5 s5 Ld5 Le5 f7
    walk_at "rd"
    rename_i q8 nq8
    refine dputL 12 (same_new s7 nq8) np (hp_upd nq8 e7) rfl (by decide) rfl fun H9 s9 f9 e9 => ?_
    replace e9 : H9 p = some (.dK (zK (keysL.take 13) [.str nm, .int (1 + d0), .int 1, .int 1, .str "", .str "none", .str "", .int d5, .int 0, .int 1000000, .str cv, .str md, .str sm])) := e9
    have Ld9 := same_lst s9 Ld0
    have Le9 := same_lst s9 Le0
    clear e7 s7 Ld7 Le7 f9
    walk_at "rd"
    have hm0 : 0 ≤ d11 % (1 + d0) := Int.emod_nonneg _ (by omega)
    have hm1 : d11 % (1 + d0) < 1 + d0 := Int.emod_lt_of_pos _ (by omega)
    have zf : Sz 64 (d11 % (1 + d0)) := Sz.mk (by omega)
    refine dgetL 1 13 e9 (by decide) rfl rfl ?_
    walk_at "rd"
    refine dputL 13 (s9) np (e9) rfl (by decide) rfl fun H10 s10 f10 e10 => ?_
    replace e10 : H10 p = some (.dK (zK (keysL.take 14) [.str nm, .int (1 + d0), .int 1, .int 1, .str "", .str "none", .str "", .int d5, .int 0, .int 1000000, .str cv, .str md, .str sm, .int (d11 % (1 + d0) * (e6 / 4 % 2))])) := e10
    have Ld10 := same_lst s10 Ld0
    have Le10 := same_lst s10 Le0
    clear e9 s9 Ld9 Le9 f10
    walk_at "rd"
    refine ⟨fun σ' H' => Wall (∃ (ev : Int), isEveryT ev = true ∧ Same Hb H' ∧ H' p = some (.dK (zK (keysL.take 14) [.str nm, .int (1 + d0), .int ev, .int 1, .str "", .str "none", .str "", .int d5, .int 0, .int 1000000, .str cv, .str md, .str sm, .int (d11 % (1 + d0) * (e6 / 4 % 2))])) ∧ σ' = [some (.int c), some (.str nm), some (.ref pd), some (.ref pe), some (.ref p)]), ?_, ?_⟩
    · obtain ⟨ev0, hev0, hev1⟩ := everyF_at (i := d1) (by omega) (by omega)
      walk_at "rd"
      refine iteI (fun c1 => ?_) (fun c1 => ?_)
      · walk_at "rd"
        rename_i q11 nq11
        refine dsetL 2 14 (same_new s10 nq11) np (hp_upd nq11 e10) rfl (by decide) (by decide) rfl fun H12 s12 f12 e12 => ?_
        replace e12 : H12 p = some (.dK (zK (keysL.take 14) [.str nm, .int (1 + d0), .int ev0, .int 1, .str "", .str "none", .str "", .int d5, .int 0, .int 1000000, .str cv, .str md, .str sm, .int (d11 % (1 + d0) * (e6 / 4 % 2))])) := e12
        have Ld12 := same_lst s12 Ld0
        have Le12 := same_lst s12 Le0
        walk_at "rd"
        exact wall ⟨ev0, hev1, s12, e12, rfl⟩
      · exact wall ⟨1, by decide +kernel, s10, e10, rfl⟩
    rintro σ' H13 ⟨w⟩
    obtain ⟨ev, hev, s13, e13, rfl⟩ := w trivial
    clear w e10 s10 Ld10 Le10
    have Ld13 := same_lst s13 Ld0
    have Le13 := same_lst s13 Le0
    refine ⟨fun σ' H' => Wall (∃ (du : Int) (cal ru : Str), 1 ≤ du ∧ du ≤ 31 ∧ (cal == "" || nameB cal) = true ∧ cal.length ≤ 1000000 ∧ isRuleT ru = true ∧ ru.length ≤ 1000000 ∧ Same Hb H' ∧ H' p = some (.dK (zK (keysL.take 14) [.str nm, .int (1 + d0), .int ev, .int du, .str cal, .str ru, .str "", .int d5, .int 0, .int 1000000, .str cv, .str md, .str sm, .int (d11 % (1 + d0) * (e6 / 4 % 2))])) ∧ σ' = [some (.int c), some (.str nm), some (.ref pd), some (.ref pe), some (.ref p)]), ?_, ?_⟩
    · obtain ⟨ru0, hru0, hru1, hru2⟩ := ruleF_at (i := d3) (by omega) (by omega)
      obtain ⟨hc0, hc1⟩ := calN e7 (by omega) (by omega)
      walk_at "rd"
      refine iteI (fun c1 => ?_) (fun c1 => ?_)
      · walk_at "rd"
        refine dsetL 3 14 (s13) np (e13) rfl (by decide) (by decide) rfl fun H14 s14 f14 e14 => ?_
        replace e14 : H14 p = some (.dK (zK (keysL.take 14) [.str nm, .int (1 + d0), .int ev, .int (1 + d2), .str "", .str "none", .str "", .int d5, .int 0, .int 1000000, .str cv, .str md, .str sm, .int (d11 % (1 + d0) * (e6 / 4 % 2))])) := e14
        have Ld14 := same_lst s14 Ld0
        have Le14 := same_lst s14 Le0
        walk_at "rd"
        refine ⟨_, ?_, fun _ _ w => w⟩
        walk_at "rd"
        refine iteD (fun c2 => ?_) (fun c2 => ?_)
        · walk_at "rd"
          rename_i q15 nq15
          refine dsetL 5 14 (same_new s14 nq15) np (hp_upd nq15 e14) rfl (by decide) (by decide) rfl fun H16 s16 f16 e16 => ?_
          replace e16 : H16 p = some (.dK (zK (keysL.take 14) [.str nm, .int (1 + d0), .int ev, .int (1 + d2), .str "", .str ru0, .str "", .int d5, .int 0, .int 1000000, .str cv, .str md, .str sm, .int (d11 % (1 + d0) * (e6 / 4 % 2))])) := e16
          have Ld16 := same_lst s16 Ld0
          have Le16 := same_lst s16 Le0
          walk_at "rd"
          refine strI_go (Nat.lt_of_le_of_lt (Nat.log2_le_self _) (by omega)) ?_
          have lc : ("c" : Str).length + (toString e7 : Str).length ≤ sizeLine := by rw [← len_app, sizeLine_eq]; omega
          walk_at "rd"
          refine dsetL 4 14 (s16) np (e16) rfl (by decide) (by decide) rfl fun H17 s17 f17 e17 => ?_
          replace e17 : H17 p = some (.dK (zK (keysL.take 14) [.str nm, .int (1 + d0), .int ev, .int (1 + d2), .str ("c" ++ (toString e7 : Str)), .str ru0, .str "", .int d5, .int 0, .int 1000000, .str cv, .str md, .str sm, .int (d11 % (1 + d0) * (e6 / 4 % 2))])) := e17
          have Ld17 := same_lst s17 Ld0
          have Le17 := same_lst s17 Le0
          walk_at "rd"
          exact wall ⟨1 + d2, _, ru0, by omega, by omega, by rw [hc0, Bool.or_true], hc1, hru1, hru2, s17, e17, rfl⟩
        · exact wall ⟨1 + d2, "", "none", by omega, by omega, rfl, Nat.le_of_ble_eq_true (by rfl), by decide +kernel, Nat.le_of_ble_eq_true (by rfl), s14, e14, rfl⟩
      · exact wall ⟨1, "", "none", by omega, by omega, rfl, Nat.le_of_ble_eq_true (by rfl), by decide +kernel, Nat.le_of_ble_eq_true (by rfl), s13, e13, rfl⟩
    rintro σ' H18 ⟨w⟩
    obtain ⟨du, cal, ru, du0, du1, hcal1, hcal2, hru1, hru2, s18, e18, rfl⟩ := w trivial
    clear w e13 s13 Ld13 Le13
    have Ld18 := same_lst s18 Ld0
    have Le18 := same_lst s18 Le0
    refine ⟨fun σ' H' => Wall (∃ (ix : Str) (lo hi : Int), (ix == "" || nameB ix) = true ∧ 0 ≤ lo ∧ lo ≤ hi ∧ hi ≤ 1000000 ∧ Same Hb H' ∧ H' p = some (.dK (zK (keysL.take 14) [.str nm, .int (1 + d0), .int ev, .int du, .str cal, .str ru, .str ix, .int d5, .int lo, .int hi, .str cv, .str md, .str sm, .int (d11 % (1 + d0) * (e6 / 4 % 2))])) ∧ σ' = [some (.int c), some (.str nm), some (.ref pd), some (.ref pe), some (.ref p)]), ?_, ?_⟩
    · have hx0 := ixN36 e8 (by omega) (by omega)
      walk_at "rd"
      refine iteI (fun c1 => ?_) (fun c1 => ?_)
      · walk_at "rd"
        refine strI_go (Nat.lt_of_le_of_lt (Nat.log2_le_self _) (by omega)) ?_
        have lc : ("x" : Str).length + (toString e8 : Str).length ≤ sizeLine := by rw [← len_app, sizeLine_eq]; have := (nameB_len hx0); omega
        walk_at "rd"
        refine dsetL 6 14 (s18) np (e18) rfl (by decide) (by decide) rfl fun H19 s19 f19 e19 => ?_
        replace e19 : H19 p = some (.dK (zK (keysL.take 14) [.str nm, .int (1 + d0), .int ev, .int du, .str cal, .str ru, .str ("x" ++ (toString e8 : Str)), .int d5, .int 0, .int 1000000, .str cv, .str md, .str sm, .int (d11 % (1 + d0) * (e6 / 4 % 2))])) := e19
        have Ld19 := same_lst s19 Ld0
        have Le19 := same_lst s19 Le0
        walk_at "rd"
        refine ⟨_, ?_, fun _ _ w => w⟩
        walk_at "rd"
        refine iteD (fun c2 => ?_) (fun c2 => ?_)
        · walk_at "rd"
          refine dsetL 8 14 (s19) np (e19) rfl (by decide) (by decide) rfl fun H20 s20 f20 e20 => ?_
          replace e20 : H20 p = some (.dK (zK (keysL.take 14) [.str nm, .int (1 + d0), .int ev, .int du, .str cal, .str ru, .str ("x" ++ (toString e8 : Str)), .int d5, .int (if d7 < d6 then d7 else d6), .int 1000000, .str cv, .str md, .str sm, .int (d11 % (1 + d0) * (e6 / 4 % 2))])) := e20
          have Ld20 := same_lst s20 Ld0
          have Le20 := same_lst s20 Le0
          walk_at "rd"
          refine dsetL 9 14 (s20) np (e20) rfl (by decide) (by decide) rfl fun H21 s21 f21 e21 => ?_
          replace e21 : H21 p = some (.dK (zK (keysL.take 14) [.str nm, .int (1 + d0), .int ev, .int du, .str cal, .str ru, .str ("x" ++ (toString e8 : Str)), .int d5, .int (if d7 < d6 then d7 else d6), .int (if d6 < d7 then d7 else d6), .str cv, .str md, .str sm, .int (d11 % (1 + d0) * (e6 / 4 % 2))])) := e21
          have Ld21 := same_lst s21 Ld0
          have Le21 := same_lst s21 Le0
          walk_at "rd"
          exact wall ⟨_, _, _, by rw [hx0, Bool.or_true], by split <;> omega, by split <;> split <;> omega, by split <;> omega, s21, e21, rfl⟩
        · exact wall ⟨_, 0, 1000000, by rw [hx0, Bool.or_true], by omega, by omega, by omega, s19, e19, rfl⟩
      · exact wall ⟨"", 0, 1000000, rfl, by omega, by omega, by omega, s18, e18, rfl⟩
    rintro σ' H22 ⟨w⟩
    obtain ⟨ix, lo, hi, hix, lo0, lo1, hi1, s22, e22, rfl⟩ := w trivial
    clear w e18 s18 Ld18 Le18
    have Ld22 := same_lst s22 Ld0
    have Le22 := same_lst s22 Le0
    refine ⟨fun σ' H' => Wall (∃ (rt : Int), 0 ≤ rt ∧ rt ≤ 1000000 ∧ Same Hb H' ∧ H' p = some (.dK (zK (keysL.take 14) [.str nm, .int (1 + d0), .int ev, .int du, .str cal, .str ru, .str ix, .int rt, .int lo, .int hi, .str cv, .str md, .str sm, .int (d11 % (1 + d0) * (e6 / 4 % 2))])) ∧ σ' = [some (.int c), some (.str nm), some (.ref pd), some (.ref pe), some (.ref p)]), ?_, ?_⟩
    · obtain ⟨rt0, hrt0, hrt1, hrt2⟩ := four_at (a := 0) (b := 1000000) (c := d5 % 100 * 10000) (d := d5 % 1000 * 100) (i := d6 % 4) (by omega) (by omega) (by omega) (by omega) (by omega) (by omega)
      walk_at "rd"
      refine iteI (fun c1 => ?_) (fun c1 => ?_)
      · walk_at "rd"
        rename_i q23 nq23
        refine dsetL 7 14 (same_new s22 nq23) np (hp_upd nq23 e22) rfl (by decide) (by decide) rfl fun H24 s24 f24 e24 => ?_
        replace e24 : H24 p = some (.dK (zK (keysL.take 14) [.str nm, .int (1 + d0), .int ev, .int du, .str cal, .str ru, .str ix, .int rt0, .int lo, .int hi, .str cv, .str md, .str sm, .int (d11 % (1 + d0) * (e6 / 4 % 2))])) := e24
        have Ld24 := same_lst s24 Ld0
        have Le24 := same_lst s24 Le0
        walk_at "rd"
        exact wall ⟨rt0, hrt1, hrt2, s24, e24, rfl⟩
      · exact wall ⟨d5, (by omega), by omega, s22, e22, rfl⟩
    rintro σ' H25 ⟨w⟩
    obtain ⟨rt, rt0, rt1, s25, e25, rfl⟩ := w trivial
    clear w e22 s22 Ld22 Le22
    have Ld25 := same_lst s25 Ld0
    have Le25 := same_lst s25 Le0
    walk_at "rd"
    refine dputL 14 (s25) np (e25) rfl (by decide) rfl fun H26 s26 f26 e26 => ?_
    replace e26 : H26 p = some (.dK (zK (keysL.take 15) [.str nm, .int (1 + d0), .int ev, .int du, .str cal, .str ru, .str ix, .int rt, .int lo, .int hi, .str cv, .str md, .str sm, .int (d11 % (1 + d0) * (e6 / 4 % 2)), .int (d12 * (e6 / 128 % 2))])) := e26
    have Ld26 := same_lst s26 Ld0
    have Le26 := same_lst s26 Le0
    clear e25 s25 Ld25 Le25 f26
    walk_at "rd"
    refine dputL 15 (s26) np (e26) rfl (by decide) rfl fun H27 s27 f27 e27 => ?_
    replace e27 : H27 p = some (.dK (zK (keysL.take 16) [.str nm, .int (1 + d0), .int ev, .int du, .str cal, .str ru, .str ix, .int rt, .int lo, .int hi, .str cv, .str md, .str sm, .int (d11 % (1 + d0) * (e6 / 4 % 2)), .int (d12 * (e6 / 128 % 2)), .int (d13 * (e6 / 256 % 2))])) := e27
    have Ld27 := same_lst s27 Ld0
    have Le27 := same_lst s27 Le0
    clear e26 s26 Ld26 Le26 f27
    walk_at "rd"
    refine dputL 16 (s27) np (e27) rfl (by decide) rfl fun H28 s28 f28 e28 => ?_
    replace e28 : H28 p = some (.dK (zK (keysL.take 17) [.str nm, .int (1 + d0), .int ev, .int du, .str cal, .str ru, .str ix, .int rt, .int lo, .int hi, .str cv, .str md, .str sm, .int (d11 % (1 + d0) * (e6 / 4 % 2)), .int (d12 * (e6 / 128 % 2)), .int (d13 * (e6 / 256 % 2)), .int (d14 * (e6 / 512 % 2))])) := e28
    have Ld28 := same_lst s28 Ld0
    have Le28 := same_lst s28 Le0
    clear e27 s27 Ld27 Le27 f28
    walk_at "rd"
    refine dputL 17 (s28) np (e28) rfl (by decide) rfl fun H29 s29 f29 e29 => ?_
    replace e29 : H29 p = some (.dK (zK (keysL.take 18) [.str nm, .int (1 + d0), .int ev, .int du, .str cal, .str ru, .str ix, .int rt, .int lo, .int hi, .str cv, .str md, .str sm, .int (d11 % (1 + d0) * (e6 / 4 % 2)), .int (d12 * (e6 / 128 % 2)), .int (d13 * (e6 / 256 % 2)), .int (d14 * (e6 / 512 % 2)), .int (e0 * (e6 / 1024 % 2))])) := e29
    have Ld29 := same_lst s29 Ld0
    have Le29 := same_lst s29 Le0
    clear e28 s28 Ld28 Le28 f29
    walk_at "rd"
    refine dputL 18 (s29) np (e29) rfl (by decide) rfl fun H30 s30 f30 e30 => ?_
    replace e30 : H30 p = some (.dK (zK (keysL.take 19) [.str nm, .int (1 + d0), .int ev, .int du, .str cal, .str ru, .str ix, .int rt, .int lo, .int hi, .str cv, .str md, .str sm, .int (d11 % (1 + d0) * (e6 / 4 % 2)), .int (d12 * (e6 / 128 % 2)), .int (d13 * (e6 / 256 % 2)), .int (d14 * (e6 / 512 % 2)), .int (e0 * (e6 / 1024 % 2)), .int 5])) := e30
    have Ld30 := same_lst s30 Ld0
    have Le30 := same_lst s30 Le0
    clear e29 s29 Ld29 Le29 f30
    walk_at "rd"
    refine ⟨fun σ' H' => Wall (∃ (gr : Int), 0 ≤ gr ∧ gr ≤ 90 ∧ Same Hb H' ∧ H' p = some (.dK (zK (keysL.take 19) [.str nm, .int (1 + d0), .int ev, .int du, .str cal, .str ru, .str ix, .int rt, .int lo, .int hi, .str cv, .str md, .str sm, .int (d11 % (1 + d0) * (e6 / 4 % 2)), .int (d12 * (e6 / 128 % 2)), .int (d13 * (e6 / 256 % 2)), .int (d14 * (e6 / 512 % 2)), .int (e0 * (e6 / 1024 % 2)), .int gr])) ∧ σ' = [some (.int c), some (.str nm), some (.ref pd), some (.ref pe), some (.ref p)]), ?_, ?_⟩
    · walk_at "rd"
      refine iteI (fun c1 => ?_) (fun c1 => ?_)
      · walk_at "rd"
        refine dsetL 18 19 (s30) np (e30) rfl (by decide) (by decide) rfl fun H31 s31 f31 e31 => ?_
        replace e31 : H31 p = some (.dK (zK (keysL.take 19) [.str nm, .int (1 + d0), .int ev, .int du, .str cal, .str ru, .str ix, .int rt, .int lo, .int hi, .str cv, .str md, .str sm, .int (d11 % (1 + d0) * (e6 / 4 % 2)), .int (d12 * (e6 / 128 % 2)), .int (d13 * (e6 / 256 % 2)), .int (d14 * (e6 / 512 % 2)), .int (e0 * (e6 / 1024 % 2)), .int e1])) := e31
        have Ld31 := same_lst s31 Ld0
        have Le31 := same_lst s31 Le0
        walk_at "rd"
        exact wall ⟨e1, (by omega), by omega, s31, e31, rfl⟩
      · exact wall ⟨5, by omega, by omega, s30, e30, rfl⟩
    rintro σ' H32 ⟨w⟩
    obtain ⟨gr, gr0, gr1, s32, e32, rfl⟩ := w trivial
    clear w e30 s30 Ld30 Le30
    have Ld32 := same_lst s32 Ld0
    have Le32 := same_lst s32 Le0
    refine ⟨fun σ' H' => Wall (∃ (g2 : Int), 0 ≤ g2 ∧ g2 ≤ 90 ∧ (0 < e0 * (e6 / 1024 % 2) → g2 < 28 * ev) ∧ Same Hb H' ∧ H' p = some (.dK (zK (keysL.take 19) [.str nm, .int (1 + d0), .int ev, .int du, .str cal, .str ru, .str ix, .int rt, .int lo, .int hi, .str cv, .str md, .str sm, .int (d11 % (1 + d0) * (e6 / 4 % 2)), .int (d12 * (e6 / 128 % 2)), .int (d13 * (e6 / 256 % 2)), .int (d14 * (e6 / 512 % 2)), .int (e0 * (e6 / 1024 % 2)), .int g2])) ∧ σ' = [some (.int c), some (.str nm), some (.ref pd), some (.ref pe), some (.ref p)]), ?_, ?_⟩
    · have evb := every_bd hev
      walk_at "rd"
      refine dgetL 17 19 e32 (by decide) rfl rfl ?_
      walk_at "rd"
      refine iteD (fun c1 => ?_) (fun c1 => ?_)
      · walk_at "rd"
        refine dgetL 18 19 e32 (by decide) rfl rfl ?_
        walk_at "rd"
        refine dgetL 2 19 e32 (by decide) rfl rfl ?_
        walk_at "rd"
        refine dsetL 18 19 (s32) np (e32) rfl (by decide) (by decide) rfl fun H33 s33 f33 e33 => ?_
        replace e33 : H33 p = some (.dK (zK (keysL.take 19) [.str nm, .int (1 + d0), .int ev, .int du, .str cal, .str ru, .str ix, .int rt, .int lo, .int hi, .str cv, .str md, .str sm, .int (d11 % (1 + d0) * (e6 / 4 % 2)), .int (d12 * (e6 / 128 % 2)), .int (d13 * (e6 / 256 % 2)), .int (d14 * (e6 / 512 % 2)), .int (e0 * (e6 / 1024 % 2)), .int (if 28 * ev - 1 < gr then 28 * ev - 1 else gr)])) := e33
        have Ld33 := same_lst s33 Ld0
        have Le33 := same_lst s33 Le0
        walk_at "rd"
        exact wall ⟨_, by split <;> omega, by split <;> omega, fun _ => by split <;> omega, s33, e33, rfl⟩
      · exact wall ⟨gr, gr0, gr1, fun z => absurd z c1, s32, e32, rfl⟩
    rintro σ' H34 ⟨w⟩
    obtain ⟨g2, g20, g21, g22, s34, e34, rfl⟩ := w trivial
    clear w e32 s32 Ld32 Le32
    have Ld34 := same_lst s34 Ld0
    have Le34 := same_lst s34 Le0
    walk_at "rd"
    refine dputL 19 (s34) np (e34) rfl (by decide) rfl fun H35 s35 f35 e35 => ?_
    replace e35 : H35 p = some (.dK (zK (keysL.take 20) [.str nm, .int (1 + d0), .int ev, .int du, .str cal, .str ru, .str ix, .int rt, .int lo, .int hi, .str cv, .str md, .str sm, .int (d11 % (1 + d0) * (e6 / 4 % 2)), .int (d12 * (e6 / 128 % 2)), .int (d13 * (e6 / 256 % 2)), .int (d14 * (e6 / 512 % 2)), .int (e0 * (e6 / 1024 % 2)), .int g2, .int (e2 * (e6 / 4096 % 2))])) := e35
    have Ld35 := same_lst s35 Ld0
    have Le35 := same_lst s35 Le0
    clear e34 s34 Ld34 Le34 f35
    walk_at "rd"
    refine dputL 20 (s35) np (e35) rfl (by decide) rfl fun H36 s36 f36 e36 => ?_
    replace e36 : H36 p = some (.dK (zK (keysL.take 21) [.str nm, .int (1 + d0), .int ev, .int du, .str cal, .str ru, .str ix, .int rt, .int lo, .int hi, .str cv, .str md, .str sm, .int (d11 % (1 + d0) * (e6 / 4 % 2)), .int (d12 * (e6 / 128 % 2)), .int (d13 * (e6 / 256 % 2)), .int (d14 * (e6 / 512 % 2)), .int (e0 * (e6 / 1024 % 2)), .int g2, .int (e2 * (e6 / 4096 % 2)), .int (e3 * (e6 / 8192 % 2))])) := e36
    have Ld36 := same_lst s36 Ld0
    have Le36 := same_lst s36 Le0
    clear e35 s35 Ld35 Le35 f36
    walk_at "rd"
    have ob := bitmul (a := e4) (n := 6) (by omega) (by omega) (b := e6 / 16384 % 2) (by omega) (by omega)
    refine _law_order_go ob.1 ob.2 fun po Ho so eo => ?_
    have Ldo := same_lst so Ld36
    have Leo := same_lst so Le36
    walk_at "rd"
    refine dputL 21 (s36.trans so) np (so _ _ e36) rfl (by decide) rfl fun H37 s37 f37 e37 => ?_
    replace e37 : H37 p = some (.dK (zK (keysL.take 22) [.str nm, .int (1 + d0), .int ev, .int du, .str cal, .str ru, .str ix, .int rt, .int lo, .int hi, .str cv, .str md, .str sm, .int (d11 % (1 + d0) * (e6 / 4 % 2)), .int (d12 * (e6 / 128 % 2)), .int (d13 * (e6 / 256 % 2)), .int (d14 * (e6 / 512 % 2)), .int (e0 * (e6 / 1024 % 2)), .int g2, .int (e2 * (e6 / 4096 % 2)), .int (e3 * (e6 / 8192 % 2)), .ref po])) := e37
    have Ld37 := same_lst s37 Ld0
    have Le37 := same_lst s37 Le0
    walk_at "rd"
    have npo : po ≠ p := fun z => by rw [z, so _ _ e36] at eo; cases eo
    have eo2 := (f37 po npo).trans eo
    refine dputL 22 (s37) np (e37) rfl (by decide) rfl fun H38 s38 f38 e38 => ?_
    replace e38 : H38 p = some (.dK (zK (keysL.take 23) [.str nm, .int (1 + d0), .int ev, .int du, .str cal, .str ru, .str ix, .int rt, .int lo, .int hi, .str cv, .str md, .str sm, .int (d11 % (1 + d0) * (e6 / 4 % 2)), .int (d12 * (e6 / 128 % 2)), .int (d13 * (e6 / 256 % 2)), .int (d14 * (e6 / 512 % 2)), .int (e0 * (e6 / 1024 % 2)), .int g2, .int (e2 * (e6 / 4096 % 2)), .int (e3 * (e6 / 8192 % 2)), .ref po, .int (e5 * (e6 / 32768 % 2))])) := e38
    have Ld38 := same_lst s38 Ld0
    have Le38 := same_lst s38 Le0
    walk_at "rd"
    have eo3 := (f38 po npo).trans eo2
    have evb := every_bd hev
    have op := ord_ok ob.1 ob.2
    have x1 := bitmul (a := d12) (n := 1000000000001) (by omega) (by omega) (b := e6 / 128 % 2) (by omega) (by omega)
    have x2 := bitmul (a := d13) (n := 1001) (by omega) (by omega) (b := e6 / 256 % 2) (by omega) (by omega)
    have x3 := bitmul (a := d14) (n := 1000000000001) (by omega) (by omega) (b := e6 / 512 % 2) (by omega) (by omega)
    have x6 := bitmul (a := e2) (n := 1001) (by omega) (by omega) (b := e6 / 4096 % 2) (by omega) (by omega)
    have x7 := bitmul (a := e3) (n := 481) (by omega) (by omega) (b := e6 / 8192 % 2) (by omega) (by omega)
    have x4 := bitmul (a := e0) (n := 1000000000001) (by omega) (by omega) (b := e6 / 1024 % 2) (by omega) (by omega)
    have x8 := bitmul (a := e5) (n := 1000001) (by omega) (by omega) (b := e6 / 32768 % 2) (by omega) (by omega)
    have x5 := bitmul hm0 hm1 (b := e6 / 4 % 2) (by omega) (by omega)
    refine q p H38 ⟨nm, 1 + d0, ev, du, cal, ru, ix, rt, lo, hi, cv, md, sm, d11 % (1 + d0) * (e6 / 4 % 2), d12 * (e6 / 128 % 2), d13 * (e6 / 256 % 2), d14 * (e6 / 512 % 2), e0 * (e6 / 1024 % 2), g2, e2 * (e6 / 4096 % 2), e3 * (e6 / 8192 % 2), po, e5 * (e6 / 32768 % 2)⟩ (ordOf (e4 * (e6 / 16384 % 2))) (sHb.trans s38) (sameZ sHb np) ⟨e38, eo3, ?_, hcal2, hru2, hcv2, hmd2, hsm2, op.2.1, op.2.2⟩ rfl
    refine termErr_ok hnm (show 1 ≤ 1 + d0 ∧ 1 + d0 ≤ 480 by omega) hev ⟨du0, du1⟩ hcal1 hru1 hix ⟨rt0, rt1⟩ (show 0 ≤ lo ∧ lo ≤ 1000000 by omega) (show 0 ≤ hi ∧ hi ≤ 1000000 by omega) hcv1 hmd1 hsm1 (show 0 ≤ d11 % (1 + d0) * (e6 / 4 % 2) ∧ d11 % (1 + d0) * (e6 / 4 % 2) ≤ 479 by omega) ?_ op.1 (show 0 ≤ e5 * (e6 / 32768 % 2) ∧ e5 * (e6 / 32768 % 2) ≤ 1000000 by omega) ?_
    · show btw (d12 * (e6 / 128 % 2)) _ _ (btw (d13 * (e6 / 256 % 2)) _ _ (btw (d14 * (e6 / 512 % 2)) _ _ (btw (e0 * (e6 / 1024 % 2)) _ _ (btw g2 _ _ (btw (e2 * (e6 / 4096 % 2)) _ _ (btw (e3 * (e6 / 8192 % 2)) _ _ none)))))) = none
      rw [btw_t (by omega) (by omega), btw_t (by omega) (by omega), btw_t (by omega) (by omega), btw_t (by omega) (by omega), btw_t (by omega) (by omega), btw_t (by omega) (by omega), btw_t (by omega) (by omega)]
    · show (if 1 + d0 ≤ d11 % (1 + d0) * (e6 / 4 % 2) then _ else if hi < lo then _ else if 0 < e0 * (e6 / 1024 % 2) ∧ 28 * ev ≤ g2 then _ else none) = none
      rw [if_neg (by omega), if_neg (by omega), if_neg (fun z => by have := g22 z.1; omega)]
theorem _law_fields_go {H : Hp} {Q : VK} {E : XK} {c : Int} {nm : Str} (h1 : Sz 1048590 c) (h2 : nameB nm = true) (q : ∀ p H' t os, Same H H' → H p = none → TermD H' p t os → t.name = nm → Q (.ref p) H') : sp__law_fields [.int c, .str nm] H Q E := by
  unfold sp__law_fields
  exact ⟨c, nm, rfl, h1, h2, q⟩

/-! ### _law_keys -/
@[irreducible] def sp__law_keys : Sp := fun vs H Q E => vs = [] ∧ (∀ p H', Same H H' → H' p = some (.lst (keysL.map V.str)) → Q (.ref p) H')
theorem ok__law_keys (T : Txt w K mg) : FnOk P w K mg base (L2.CX P w) 1 T.a__law_keys T.fd__law_keys [] sp__law_keys := by
  refine T.F__law_keys.ok sc__law_keys (fun vs H Q E h => ?_) (fun cdv A outer s H vs Q E hr h => ?_)
  · unfold sp__law_keys at h
    obtain ⟨rfl, _⟩ := h
    rfl
  · unfold sp__law_keys at h
    obtain ⟨rfl, q⟩ := h
    refine ⟨_, (pss_cons (ps_set (i := 0) sc__law_keys.nd rfl (Or.inl rfl) (pe_lst (pa_cons pe_str (pa_cons pe_str (pa_cons pe_str (pa_cons pe_str (pa_cons pe_str (pa_cons pe_str (pa_cons pe_str (pa_cons pe_str (pa_cons pe_str (pa_cons pe_str (pa_cons pe_str pa_nil)))))))))))))
    (pss_cons (ps_set (i := 0) sc__law_keys.nd rfl (Or.inl rfl) (pe_op op_ct (pv 0) (pe_lst (pa_cons pe_str (pa_cons pe_str (pa_cons pe_str (pa_cons pe_str (pa_cons pe_str (pa_cons pe_str (pa_cons pe_str (pa_cons pe_str pa_nil)))))))))))
    (pss_one (ps_ret (pe_op op_ct (pv 0) (pe_lst (pa_cons pe_str (pa_cons pe_str (pa_cons pe_str (pa_cons pe_str pa_nil)))))))))), ?_⟩
    walk_at "rd"
    exact q _ _ (by repeat (first | exact Same.refl _ | refine same_new ?_ (by assumption))) upd_same
theorem _law_keys_go {H : Hp} {Q : VK} {E : XK} (q : ∀ p H', Same H H' → H' p = some (.lst (keysL.map V.str)) → Q (.ref p) H') : sp__law_keys [] H Q E := by
  unfold sp__law_keys
  exact ⟨rfl, q⟩

/-! ### is_lower -/
@[irreducible] def sp_is_lower : Sp := fun vs H Q E => ∃ (c : Nat), vs = [.str ⟨#[c]⟩] ∧ (Q (.bl (lowC c)) H)
theorem ok_is_lower (T : Txt w K mg) : FnOk P w K mg base (L2.CX P w) 1 T.a_is_lower T.fd_is_lower ["character"] sp_is_lower := by
  refine T.F_is_lower.ok sc_is_lower (fun vs H Q E h => ?_) (fun cdv A outer s H vs Q E hr h => ?_)
  · unfold sp_is_lower at h
    obtain ⟨c, rfl, _⟩ := h
    rfl
  · unfold sp_is_lower at h
    obtain ⟨c, rfl, q⟩ := h
    refine ⟨_, (pss_one (ps_ret (pe_chain op_leS op_leS pe_str (pv 0) pe_str))), ?_⟩
    have e1 : ("a" : Str).cps.toList = [97] := by decide +kernel
    have e2 : ("z" : Str).cps.toList = [122] := by decide +kernel
    have e3 : (⟨#[c]⟩ : Str).cps.toList = [c] := rfl
    walk_at "rd"
    rw [e1, e3]
    refine iteDN (fun h => ?_) (fun h => ?_)
    · rw [lt_one] at h
      walk_at "rd"
      rw [e2, e3]
      refine q_bl q ?_
      unfold lowC
      rw [decide_eq_true (show 97 ≤ c by omega), Bool.true_and]
      by_cases k : c ≤ 122
      · rw [decide_eq_true k, decide_eq_false (by rw [lt_one]; omega)]; rfl
      · rw [decide_eq_false k, decide_eq_true (by rw [lt_one]; omega)]; rfl
    · rw [lt_one] at h
      refine q_bl q ?_
      unfold lowC
      rw [decide_eq_false (show ¬ 97 ≤ c by omega), Bool.false_and]
theorem is_lower_go {H : Hp} {Q : VK} {E : XK} {c : Nat} (q : Q (.bl (lowC c)) H) : sp_is_lower [.str ⟨#[c]⟩] H Q E := by
  unfold sp_is_lower
  exact ⟨c, rfl, q⟩
local macro_rules | `(tactic| walk_at "call") => `(tactic| (apply is_lower_go))

/-! ### is_digit -/
@[irreducible] def sp_is_digit : Sp := fun vs H Q E => ∃ (c : Nat), vs = [.str ⟨#[c]⟩] ∧ (Q (.bl (digC c)) H)
theorem ok_is_digit (T : Txt w K mg) : FnOk P w K mg base (L2.CX P w) 1 T.a_is_digit T.fd_is_digit ["character"] sp_is_digit := by
  refine T.F_is_digit.ok sc_is_digit (fun vs H Q E h => ?_) (fun cdv A outer s H vs Q E hr h => ?_)
  · unfold sp_is_digit at h
    obtain ⟨c, rfl, _⟩ := h
    rfl
  · unfold sp_is_digit at h
    obtain ⟨c, rfl, q⟩ := h
    refine ⟨_, (pss_one (ps_ret (pe_chain op_leS op_leS pe_str (pv 0) pe_str))), ?_⟩
    have e1 : ("0" : Str).cps.toList = [48] := by decide +kernel
    have e2 : ("9" : Str).cps.toList = [57] := by decide +kernel
    have e3 : (⟨#[c]⟩ : Str).cps.toList = [c] := rfl
    walk_at "rd"
    rw [e1, e3]
    refine iteDN (fun h => ?_) (fun h => ?_)
    · rw [lt_one] at h
      walk_at "rd"
      rw [e2, e3]
      refine q_bl q ?_
      unfold digC
      rw [decide_eq_true (show 48 ≤ c by omega), Bool.true_and]
      by_cases k : c ≤ 57
      · rw [decide_eq_true k, decide_eq_false (by rw [lt_one]; omega)]; rfl
      · rw [decide_eq_false k, decide_eq_true (by rw [lt_one]; omega)]; rfl
    · rw [lt_one] at h
      refine q_bl q ?_
      unfold digC
      rw [decide_eq_false (show ¬ 48 ≤ c by omega), Bool.false_and]
theorem is_digit_go {H : Hp} {Q : VK} {E : XK} {c : Nat} (q : Q (.bl (digC c)) H) : sp_is_digit [.str ⟨#[c]⟩] H Q E := by
  unfold sp_is_digit
  exact ⟨c, rfl, q⟩
local macro_rules | `(tactic| walk_at "call") => `(tactic| (apply is_digit_go))

/-! ### is_name -/
@[irreducible] def sp_is_name : Sp := fun vs H Q E => ∃ (z : Str), vs = [.str z] ∧ (z.length ≤ 1000000) ∧ (Q (.bl (nameB z)) H)
theorem ok_is_name (T : Txt w K mg) : FnOk P w K mg base (L2.CX P w) 2 T.a_is_name T.fd_is_name ["text"] sp_is_name := by
  refine T.F_is_name.ok sc_is_name (fun vs H Q E h => ?_) (fun cdv A outer s H vs Q E hr h => ?_)
  · unfold sp_is_name at h
    obtain ⟨z, rfl, _⟩ := h
    rfl
  · unfold sp_is_name at h
    obtain ⟨z, rfl, hz, q⟩ := h
    refine ⟨_, (pss_cons (ps_if (PW.pt (pw_or (pt_cmpR op_lt (pe_callB call_lenS rfl T.z_len bt_len (pa_cons (pv 0) pa_nil)) pe_int (nomark _)) (pw_or1 (pt_cmpR op_gt (pe_callB call_lenS rfl T.z_len bt_len (pa_cons (pv 0) pa_nil)) (pe_glob (v := .int 12) rfl T.m_NAME_LENGTH.choose_spec ⟨_, rfl⟩) (nomark _))))) (pss_one (ps_ret pe_bl)) pss_nil)
    (pss_cons (ps_if (pt_not (pt_val (pe_callS (ok_is_lower T) (hr.mono (by decide)) rfl T.m_is_lower T.F_is_lower.kp T.b_is_lower (fun σ => passAt (takes_of rfl rfl rfl rfl) σ) (pa_cons (pe_ix ix_ss (pv 0) pe_int (fun _ _ => rfl)) pa_nil)))) (pss_one (ps_ret pe_bl)) pss_nil)
    (pss_cons (ps_for (passes_of rfl) rfl (pi_str (pv 0)) (pg_name (i := 1) sc_is_name.nd rfl (Or.inl rfl))
      (pss_one (ps_if (PW.pt (pw_and (pt_not (pt_val (pe_callS (ok_is_lower T) (hr.mono (by decide)) rfl T.m_is_lower T.F_is_lower.kp T.b_is_lower (fun σ => passAt (takes_of rfl rfl rfl rfl) σ) (pa_cons (pv 1) pa_nil)))) (pw_and1 (pt_not (pt_val (pe_callS (ok_is_digit T) (hr.mono (by decide)) rfl T.m_is_digit T.F_is_digit.kp T.b_is_digit (fun σ => passAt (takes_of rfl rfl rfl rfl) σ) (pa_cons (pv 1) pa_nil))))))) (pss_one (ps_ret pe_bl)) pss_nil)))
    (pss_one (ps_ret pe_bl))))), ?_⟩
    walk_at "rd"
    refine iteD (fun c => ?_) (fun c => ?_)
    · walk_at "rd"
      exact q_bl q (nameB_no (by omega))
    walk_at "rd"
    refine iteD (fun c2 => ?_) (fun c2 => ?_)
    · walk_at "rd"
      exact q_bl q (nameB_no (by omega))
    obtain ⟨a, a1, a2, a3⟩ := atI_txt (z := z) (i := 0) 0 (by omega) rfl
    walk_at "rd"
    refine iteBN (fun c3 => ?_) (fun c3 => ?_)
    · walk_at "rd"
      refine q_bl q (nameB_no fun h => ?_)
      rw [head_of a1, c3] at h
      exact Bool.false_ne_true h.2.2.1
    walk_at "rd"
    refine for_txt (z := z) (fun i σ H' => Wall (H' = H ∧ ∃ u, σ = [some (.str z), u] ∧ ∀ j, j < i → ∀ c, z.cps.toList[j]? = some c → (lowC c || digC c) = true)) (wall ⟨rfl, _, rfl, fun j h => absurd h (Nat.not_lt_zero j)⟩) ?_ ?_
    · rintro i c σ H' hc ⟨w1⟩
      obtain ⟨rfl, u, rfl, hb⟩ := w1 trivial
      have step : (lowC c || digC c) = true → ∀ j, j < i + 1 → ∀ d, z.cps.toList[j]? = some d → (lowC d || digC d) = true := fun g j hj d hd => by
        by_cases e : j = i
        · subst e
          rw [hc] at hd
          cases hd
          exact g
        · exact hb j (by omega) d hd
      walk_at "rd"
      refine iteBN (fun c4 => ?_) (fun c4 => ?_)
      · walk_at "rd"
        refine iteBN (fun c5 => ?_) (fun c5 => ?_)
        · walk_at "rd"
          refine q_bl q (nameB_no fun h => ?_)
          have := h.2.2.2 c (List.mem_of_getElem? hc)
          rw [c4, c5] at this
          exact Bool.false_ne_true this
        · exact wall ⟨rfl, _, rfl, step (by rw [c5, Bool.or_true])⟩
      · exact wall ⟨rfl, _, rfl, step (by rw [c4, Bool.true_or])⟩
    · rintro σ H' ⟨w1⟩
      obtain ⟨rfl, u, rfl, hb⟩ := w1 trivial
      walk_at "rd"
      refine q_bl q (nameB_iff.mpr ⟨by omega, by omega, by rw [head_of a1]; exact c3, fun c hc => ?_⟩)
      obtain ⟨i, hi, e⟩ := List.mem_iff_getElem.mp hc
      exact hb i hi c (by rw [List.getElem?_eq_getElem hi, e])
theorem is_name_go {H : Hp} {Q : VK} {E : XK} {z : Str} (hz : z.length ≤ 1000000) (q : Q (.bl (nameB z)) H) : sp_is_name [.str z] H Q E := by
  unfold sp_is_name
  exact ⟨z, rfl, hz, q⟩
local macro_rules | `(tactic| walk_at "call") => `(tactic| (apply is_name_go; (first | assumption | omega)))

/-! ### check_name -/
@[irreducible] def sp_check_name (T : Txt w K mg) : Sp := fun vs H Q E => ∃ (z : Str), vs = [.str z] ∧ (z.length ≤ 1000000) ∧ (nameB z = false → ∀ d, H d = none → E (.ref T.c_BadName) (some d) (upd H d (.xd (f_BadName [.str z])))) ∧ (nameB z = true → Q (.str z) H)
theorem ok_check_name (T : Txt w K mg) : FnOk P w K mg base (L2.CX P w) 3 T.a_check_name T.fd_check_name ["text"] (sp_check_name T) := by
  refine T.F_check_name.ok sc_check_name (fun vs H Q E h => ?_) (fun cdv A outer s H vs Q E hr h => ?_)
  · unfold sp_check_name at h
    obtain ⟨z, rfl, _⟩ := h
    rfl
  · unfold sp_check_name at h
    obtain ⟨z, rfl, hz, e, q⟩ := h
    refine ⟨_, (pss_cons (ps_if (pt_not (pt_val (pe_callS (ok_is_name T) (hr.mono (by decide)) rfl T.m_is_name T.F_is_name.kp T.b_is_name (fun σ => passAt (takes_of rfl rfl rfl rfl) σ) (pa_cons (pv 0) pa_nil)))) (pss_one (ps_raiseX rfl (takes_of rfl rfl rfl rfl) (okx_BadName T) (by decide) (hr.mono (by decide)) rfl T.m_BadName (pa_cons (pv 0) pa_nil))) pss_nil)
    (pss_one (ps_ret (pv 0)))), ?_⟩
    walk_at "rd"
    refine iteBN (fun c => ?_) (fun c => ?_)
    · walk_at "rd"
      exact ⟨⟨z, rfl, hz⟩, e c⟩
    · walk_at "rd"
      exact q c
theorem check_name_go (T : Txt w K mg) {H : Hp} {Q : VK} {E : XK} {z : Str} (hz : z.length ≤ 1000000) (e : nameB z = false → ∀ d, H d = none → E (.ref T.c_BadName) (some d) (upd H d (.xd (f_BadName [.str z])))) (q : nameB z = true → Q (.str z) H) : sp_check_name T [.str z] H Q E := by
  unfold sp_check_name
  exact ⟨z, rfl, hz, e, q⟩

/-! ### check_between -/
@[irreducible] def sp_check_between (T : Txt w K mg) : Sp := fun vs H Q E => ∃ (v : Int) (a : Int) (b : Int), vs = [.int v, .int a, .int b] ∧ (v < a ∨ b < v → ∀ x, H x = none → E (.ref T.c_OutOfRange) (some x) (upd H x (.xd (f_OutOfRange [.int v])))) ∧ (a ≤ v → v ≤ b → Q .non H)
theorem ok_check_between (T : Txt w K mg) : FnOk P w K mg base (L2.CX P w) 3 T.a_check_between T.fd_check_between ["value", "least", "most"] (sp_check_between T) := by
  refine T.F_check_between.ok sc_check_between (fun vs H Q E h => ?_) (fun cdv A outer s H vs Q E hr h => ?_)
  · unfold sp_check_between at h
    obtain ⟨v, a, b, rfl, _⟩ := h
    rfl
  · unfold sp_check_between at h
    obtain ⟨v, a, b, rfl, h1, q⟩ := h
    refine ⟨_, (pss_one (ps_if (PW.pt (pw_or (pt_cmpR op_lt (pv 0) (pv 1) (nomark _)) (pw_or1 (pt_cmpR op_gt (pv 0) (pv 2) (nomark _))))) (pss_one (ps_raiseX rfl (takes_of rfl rfl rfl rfl) (okx_OutOfRange T) (by decide) (hr.mono (by decide)) rfl T.m_OutOfRange (pa_cons (pv 0) pa_nil))) pss_nil)), ?_⟩
    walk_at "rd"
    refine iteD (fun e => ?_) (fun e => ?_)
    · walk_at "rd"
      exact h1 (.inl e)
    walk_at "rd"
    refine iteD (fun e2 => ?_) (fun e2 => ?_)
    · walk_at "rd"
      exact h1 (.inr e2)
    exact q (by omega) (by omega)
theorem check_between_go (T : Txt w K mg) {H : Hp} {Q : VK} {E : XK} {v : Int} {a : Int} {b : Int} (h1 : v < a ∨ b < v → ∀ x, H x = none → E (.ref T.c_OutOfRange) (some x) (upd H x (.xd (f_OutOfRange [.int v])))) (q : a ≤ v → v ≤ b → Q .non H) : sp_check_between T [.int v, .int a, .int b] H Q E := by
  unfold sp_check_between
  exact ⟨v, a, b, rfl, h1, q⟩
theorem check_between_ok (T : Txt w K mg) {H : Hp} {Q : VK} {E : XK} {v : Int} {a : Int} {b : Int} (a1 : a ≤ v) (a2 : v ≤ b) (q : Q .non H) : sp_check_between T [.int v, .int a, .int b] H Q E := check_between_go T (fun z => by omega) fun _ _ => q
local macro_rules | `(tactic| walk_at "call") => `(tactic| (apply check_between_ok; (first | assumption | omega); (first | assumption | omega)))

/-! ### check_word -/
@[irreducible] def sp_check_word (T : Txt w K mg) : Sp := fun vs H Q E => ∃ (z : Str) (p : Addr) (ws : List V), vs = [.str z, .ref p] ∧ (z.length ≤ 1000000) ∧ (SqT K H p ws) ∧ (ws.all flatV = true) ∧ (inV (.str z) ws = false → ∀ d, H d = none → E (.ref T.c_UnknownName) (some d) (upd H d (.xd (f_UnknownName [.str z])))) ∧ (inV (.str z) ws = true → Q .non H)
theorem ok_check_word (T : Txt w K mg) : FnOk P w K mg base (L2.CX P w) 3 T.a_check_word T.fd_check_word ["value", "words"] (sp_check_word T) := by
  refine T.F_check_word.ok sc_check_word (fun vs H Q E h => ?_) (fun cdv A outer s H vs Q E hr h => ?_)
  · unfold sp_check_word at h
    obtain ⟨z, p, ws, rfl, _⟩ := h
    rfl
  · unfold sp_check_word at h
    obtain ⟨z, p, ws, rfl, hz, hp, hf, e, q⟩ := h
    refine ⟨_, (pss_one (ps_if (pt_cmpR op_notInS (pv 0) (pv 1) (by rfl)) (pss_one (ps_raiseX rfl (takes_of rfl rfl rfl rfl) (okx_UnknownName T) (by decide) (hr.mono (by decide)) rfl T.m_UnknownName (pa_cons (pv 0) pa_nil))) pss_nil)), ?_⟩
    walk_at "rd"
    refine iteBN (fun c => ?_) (fun c => ?_)
    · walk_at "rd"
      exact ⟨⟨z, rfl, hz⟩, e c⟩
    · exact q c
theorem check_word_go (T : Txt w K mg) {H : Hp} {Q : VK} {E : XK} {z : Str} {p : Addr} {ws : List V} (hz : z.length ≤ 1000000) (hp : SqT K H p ws) (hf : ws.all flatV = true) (e : inV (.str z) ws = false → ∀ d, H d = none → E (.ref T.c_UnknownName) (some d) (upd H d (.xd (f_UnknownName [.str z])))) (q : inV (.str z) ws = true → Q .non H) : sp_check_word T [.str z, .ref p] H Q E := by
  unfold sp_check_word
  exact ⟨z, p, ws, rfl, hz, hp, hf, e, q⟩

/-! ### check_convention -/
theorem kget_parts (z : Str) : kget kv_PARTS z = (partsOf z).map V.int := by
  unfold kv_PARTS partsOf
  simp only [kget]
  repeat' split
  all_goals first | rfl | (simp_all; done)
@[irreducible] def sp_check_convention (T : Txt w K mg) : Sp := fun vs H Q E => ∃ (z : Str), vs = [.str z] ∧ (partsOf z = none → z.length ≤ 1000000 ∧ ∀ d, H d = none → E (.ref T.c_UnknownName) (some d) (upd H d (.xd (f_UnknownName [.str z])))) ∧ (partsOf z ≠ none → Q .non H)
theorem ok_check_convention (T : Txt w K mg) : FnOk P w K mg base (L2.CX P w) 3 T.a_check_convention T.fd_check_convention ["convention"] (sp_check_convention T) := by
  refine T.F_check_convention.ok sc_check_convention (fun vs H Q E h => ?_) (fun cdv A outer s H vs Q E hr h => ?_)
  · unfold sp_check_convention at h
    obtain ⟨z, rfl, _⟩ := h
    rfl
  · unfold sp_check_convention at h
    obtain ⟨z, rfl, e0, q⟩ := h
    refine ⟨_, (pss_one (ps_if (pt_cmpR (op_kni T.kd_PARTS) (pv 0) (pe_glob (v := .ref T.q_PARTS) rfl T.m_PARTS rfl) (by rfl)) (pss_one (ps_raiseX rfl (takes_of rfl rfl rfl rfl) (okx_UnknownName T) (by decide) (hr.mono (by decide)) rfl T.m_UnknownName (pa_cons (pv 0) pa_nil))) pss_nil)), ?_⟩
    walk_at "rd"
    rw [kget_parts]
    cases e : partsOf z with
    | none =>
      walk_at "rd"
      exact ⟨⟨z, rfl, (e0 e).1⟩, (e0 e).2⟩
    | some v =>
      walk_at "rd"
      exact q (by rw [e]; intro h; cases h)
theorem check_convention_go (T : Txt w K mg) {H : Hp} {Q : VK} {E : XK} {z : Str} (e0 : partsOf z = none → z.length ≤ 1000000 ∧ ∀ d, H d = none → E (.ref T.c_UnknownName) (some d) (upd H d (.xd (f_UnknownName [.str z])))) (q : partsOf z ≠ none → Q .non H) : sp_check_convention T [.str z] H Q E := by
  unfold sp_check_convention
  exact ⟨z, rfl, e0, q⟩

/-! ### check_charges -/
@[irreducible] def sp_check_charges (T : Txt w K mg) : Sp := fun vs H Q E => ∃ (c : Addr) (dx : Addr) (t : TM), vs = [.ref c] ∧ (H c = some (.ins T.c_Terms dx t.flds)) ∧ (TermE T E H (chargeErr t none)) ∧ (chargeErr t none = none → Q .non H)
theorem ok_check_charges (T : Txt w K mg) : FnOk P w K mg base (L2.CX P w) 4 T.a_check_charges T.fd_check_charges ["terms"] (sp_check_charges T) := by
  refine T.F_check_charges.ok sc_check_charges (fun vs H Q E h => ?_) (fun cdv A outer s H vs Q E hr h => ?_)
  · unfold sp_check_charges at h
    obtain ⟨c, dx, t, rfl, _⟩ := h
    rfl
  · unfold sp_check_charges at h
    obtain ⟨c, dx, t, rfl, hc, e, q0⟩ := h
    refine ⟨_, (pss_cons (ps_expr (pe_callS (ok_check_between T) (hr.mono (by decide)) rfl T.m_check_between T.F_check_between.kp T.b_check_between (fun σ => passAt (takes_of rfl rfl rfl rfl) σ) (pa_cons (pe_fld (pv 0) rfl) (pa_cons pe_int (pa_cons (pe_glob (v := .int 1000000000000) rfl T.m_MOST_CENTS.choose_spec ⟨_, rfl⟩) pa_nil)))))
    (pss_cons (ps_expr (pe_callS (ok_check_between T) (hr.mono (by decide)) rfl T.m_check_between T.F_check_between.kp T.b_check_between (fun σ => passAt (takes_of rfl rfl rfl rfl) σ) (pa_cons (pe_fld (pv 0) rfl) (pa_cons pe_int (pa_cons (pe_glob (v := .int 1000) rfl T.m_MOST_PART.choose_spec ⟨_, rfl⟩) pa_nil)))))
    (pss_cons (ps_expr (pe_callS (ok_check_between T) (hr.mono (by decide)) rfl T.m_check_between T.F_check_between.kp T.b_check_between (fun σ => passAt (takes_of rfl rfl rfl rfl) σ) (pa_cons (pe_fld (pv 0) rfl) (pa_cons pe_int (pa_cons (pe_glob (v := .int 1000000000000) rfl T.m_MOST_CENTS.choose_spec ⟨_, rfl⟩) pa_nil)))))
    (pss_cons (ps_expr (pe_callS (ok_check_between T) (hr.mono (by decide)) rfl T.m_check_between T.F_check_between.kp T.b_check_between (fun σ => passAt (takes_of rfl rfl rfl rfl) σ) (pa_cons (pe_fld (pv 0) rfl) (pa_cons pe_int (pa_cons (pe_glob (v := .int 1000000000000) rfl T.m_MOST_CENTS.choose_spec ⟨_, rfl⟩) pa_nil)))))
    (pss_cons (ps_expr (pe_callS (ok_check_between T) (hr.mono (by decide)) rfl T.m_check_between T.F_check_between.kp T.b_check_between (fun σ => passAt (takes_of rfl rfl rfl rfl) σ) (pa_cons (pe_fld (pv 0) rfl) (pa_cons pe_int (pa_cons (pe_glob (v := .int 90) rfl T.m_MOST_GRACE.choose_spec ⟨_, rfl⟩) pa_nil)))))
    (pss_cons (ps_expr (pe_callS (ok_check_between T) (hr.mono (by decide)) rfl T.m_check_between T.F_check_between.kp T.b_check_between (fun σ => passAt (takes_of rfl rfl rfl rfl) σ) (pa_cons (pe_fld (pv 0) rfl) (pa_cons pe_int (pa_cons (pe_glob (v := .int 1000) rfl T.m_MOST_PART.choose_spec ⟨_, rfl⟩) pa_nil)))))
    (pss_one (ps_expr (pe_callS (ok_check_between T) (hr.mono (by decide)) rfl T.m_check_between T.F_check_between.kp T.b_check_between (fun σ => passAt (takes_of rfl rfl rfl rfl) σ) (pa_cons (pe_fld (pv 0) rfl) (pa_cons pe_int (pa_cons (pe_glob (v := .int 480) rfl T.m_MOST_COUNT.choose_spec ⟨_, rfl⟩) pa_nil)))))))))))), ?_⟩
    have q : NoErr (chargeErr t none) (Q .non H) := q0
    unfold chargeErr at e q
    unfold TM.flds at hc
    walk_at "rd"
    refine check_between_go T (fun z x hx => (e.bf z) _ (Same.refl _) x hx) fun h1 h2 => ?_
    replace e := e.bt h1 h2
    replace q := q.bt h1 h2
    walk_at "rd"
    refine check_between_go T (fun z x hx => (e.bf z) _ (Same.refl _) x hx) fun h1 h2 => ?_
    replace e := e.bt h1 h2
    replace q := q.bt h1 h2
    walk_at "rd"
    refine check_between_go T (fun z x hx => (e.bf z) _ (Same.refl _) x hx) fun h1 h2 => ?_
    replace e := e.bt h1 h2
    replace q := q.bt h1 h2
    walk_at "rd"
    refine check_between_go T (fun z x hx => (e.bf z) _ (Same.refl _) x hx) fun h1 h2 => ?_
    replace e := e.bt h1 h2
    replace q := q.bt h1 h2
    walk_at "rd"
    refine check_between_go T (fun z x hx => (e.bf z) _ (Same.refl _) x hx) fun h1 h2 => ?_
    replace e := e.bt h1 h2
    replace q := q.bt h1 h2
    walk_at "rd"
    refine check_between_go T (fun z x hx => (e.bf z) _ (Same.refl _) x hx) fun h1 h2 => ?_
    replace e := e.bt h1 h2
    replace q := q.bt h1 h2
    walk_at "rd"
    refine check_between_go T (fun z x hx => (e.bf z) _ (Same.refl _) x hx) fun h1 h2 => ?_
    replace e := e.bt h1 h2
    replace q := q.bt h1 h2
    exact q rfl
theorem check_charges_go (T : Txt w K mg) {H : Hp} {Q : VK} {E : XK} {c : Addr} {dx : Addr} {t : TM} (hc : H c = some (.ins T.c_Terms dx t.flds)) (e : TermE T E H (chargeErr t none)) (q0 : chargeErr t none = none → Q .non H) : sp_check_charges T [.ref c] H Q E := by
  unfold sp_check_charges
  exact ⟨c, dx, t, rfl, hc, e, q0⟩

/-! ### is_late_too_long -/
@[irreducible] def sp_is_late_too_long : Sp := fun vs H Q E => ∃ (a : Int) (b : Int) (c : Int), vs = [.int a, .int b, .int c] ∧ (Sz 64 c) ∧ (Q (.bl (decide (0 < a) && decide (28 * c ≤ b))) H)
theorem ok_is_late_too_long (T : Txt w K mg) : FnOk P w K mg base (L2.CX P w) 1 T.a_is_late_too_long T.fd_is_late_too_long ["late_fee", "grace", "every"] sp_is_late_too_long := by
  refine T.F_is_late_too_long.ok sc_is_late_too_long (fun vs H Q E h => ?_) (fun cdv A outer s H vs Q E hr h => ?_)
  · unfold sp_is_late_too_long at h
    obtain ⟨a, b, c, rfl, _⟩ := h
    rfl
  · unfold sp_is_late_too_long at h
    obtain ⟨a, b, c, rfl, h, q⟩ := h
    refine ⟨_, (pss_one (ps_ret (pe_and (pe_cmpR op_gt (pv 0) pe_int (nomark _)) (pe_one (pe_cmpR op_ge (pv 1) (pe_op op_mulB (pe_glob (v := .int 28) rfl T.m_SHORTEST_MONTH.choose_spec ⟨_, rfl⟩) (pv 2)) (nomark _)))))), ?_⟩
    walk_at "rd"
    refine iteD (fun h1 => ?_) (fun h1 => ?_)
    · rw [decide_eq_true h1, Bool.true_and] at q
      walk_at "rd"
      exact q
    · rw [decide_eq_false h1, Bool.false_and] at q
      exact q
theorem is_late_too_long_go {H : Hp} {Q : VK} {E : XK} {a : Int} {b : Int} {c : Int} (h : Sz 64 c) (q : Q (.bl (decide (0 < a) && decide (28 * c ≤ b))) H) : sp_is_late_too_long [.int a, .int b, .int c] H Q E := by
  unfold sp_is_late_too_long
  exact ⟨a, b, c, rfl, h, q⟩

/-! ### check_together -/
@[irreducible] def sp_check_together (T : Txt w K mg) : Sp := fun vs H Q E => ∃ (c : Addr) (dx : Addr) (t : TM), vs = [.ref c] ∧ (H c = some (.ins T.c_Terms dx t.flds)) ∧ (Sz 64 t.every) ∧ (TermE T E H (togetherErr t)) ∧ (togetherErr t = none → Q .non H)
theorem ok_check_together (T : Txt w K mg) : FnOk P w K mg base (L2.CX P w) 3 T.a_check_together T.fd_check_together ["terms"] (sp_check_together T) := by
  refine T.F_check_together.ok sc_check_together (fun vs H Q E h => ?_) (fun cdv A outer s H vs Q E hr h => ?_)
  · unfold sp_check_together at h
    obtain ⟨c, dx, t, rfl, _⟩ := h
    rfl
  · unfold sp_check_together at h
    obtain ⟨c, dx, t, rfl, hc, hs, e, q⟩ := h
    refine ⟨_, (pss_cons (ps_if (pt_cmpR op_ge (pe_fld (pv 0) rfl) (pe_fld (pv 0) rfl) (nomark _)) (pss_one (ps_raiseX rfl (takes_of rfl rfl rfl rfl) (okx_OutOfRange T) (by decide) (hr.mono (by decide)) rfl T.m_OutOfRange (pa_cons (pe_fld (pv 0) rfl) pa_nil))) pss_nil)
    (pss_cons (ps_if (pt_cmpR op_gt (pe_fld (pv 0) rfl) (pe_fld (pv 0) rfl) (nomark _)) (pss_one (ps_raiseX rfl (takes_of rfl rfl rfl rfl) (okx_OutOfRange T) (by decide) (hr.mono (by decide)) rfl T.m_OutOfRange (pa_cons (pe_fld (pv 0) rfl) pa_nil))) pss_nil)
    (pss_one (ps_if (pt_val (pe_callS (ok_is_late_too_long T) (hr.mono (by decide)) rfl T.m_is_late_too_long T.F_is_late_too_long.kp T.b_is_late_too_long (fun σ => passAt (takes_of rfl rfl rfl rfl) σ) (pa_cons (pe_fld (pv 0) rfl) (pa_cons (pe_fld (pv 0) rfl) (pa_cons (pe_fld (pv 0) rfl) pa_nil))))) (pss_one (ps_raiseX rfl (takes_of rfl rfl rfl rfl) (okx_OutOfRange T) (by decide) (hr.mono (by decide)) rfl T.m_OutOfRange (pa_cons (pe_fld (pv 0) rfl) pa_nil))) pss_nil)))), ?_⟩
    unfold TM.flds at hc
    unfold togetherErr at e q
    walk_at "rd"
    refine iteD (fun h1 => ?_) (fun h1 => ?_)
    · rw [if_pos (by omega)] at e
      walk_at "rd"
      exact fun x hx => e _ (Same.refl _) x hx
    rw [if_neg (by omega)] at e q
    walk_at "rd"
    refine iteD (fun h2 => ?_) (fun h2 => ?_)
    · rw [if_pos h2] at e
      walk_at "rd"
      exact fun x hx => e _ (Same.refl _) x hx
    rw [if_neg h2] at e q
    walk_at "rd"
    refine is_late_too_long_go hs ?_
    walk_at "rd"
    refine iteB (fun h3 => ?_) (fun h3 => ?_)
    · rw [Bool.and_eq_true, decide_eq_true_iff, decide_eq_true_iff] at h3
      rw [if_pos h3] at e
      walk_at "rd"
      exact fun x hx => e _ (Same.refl _) x hx
    · rw [if_neg (fun z => by rw [decide_eq_true z.1, decide_eq_true z.2] at h3; cases h3)] at q
      exact q rfl
theorem check_together_go (T : Txt w K mg) {H : Hp} {Q : VK} {E : XK} {c : Addr} {dx : Addr} {t : TM} (hc : H c = some (.ins T.c_Terms dx t.flds)) (hs : Sz 64 t.every) (e : TermE T E H (togetherErr t)) (q : togetherErr t = none → Q .non H) : sp_check_together T [.ref c] H Q E := by
  unfold sp_check_together
  exact ⟨c, dx, t, rfl, hc, hs, e, q⟩

/-! ### check_terms -/
@[irreducible] def sp_check_terms (T : Txt w K mg) : Sp := fun vs H Q E => ∃ (c : Addr) (dx : Addr) (t : TM) (os : List Str), vs = [.ref c] ∧ (H c = some (.ins T.c_Terms dx t.flds)) ∧ (SqT K H t.ord (os.map V.str)) ∧ (t.name.length ≤ 1000000) ∧ (t.cal.length ≤ 1000000) ∧ (t.rule.length ≤ 1000000) ∧ (t.index.length ≤ 1000000) ∧ (t.conv.length ≤ 1000000) ∧ (t.mode.length ≤ 1000000) ∧ (t.scheme.length ≤ 1000000) ∧ (os.length ≤ 60) ∧ (os.all okS = true) ∧ (TermE T E H (termErr t os)) ∧ (termErr t os = none → ∀ H', Same H H' → Q .non H')
theorem ok_check_terms (T : Txt w K mg) : FnOk P w K mg base (L2.CX P w) 5 T.a_check_terms T.fd_check_terms ["terms"] (sp_check_terms T) := by
  refine T.F_check_terms.ok sc_check_terms (fun vs H Q E h => ?_) (fun cdv A outer s H vs Q E hr h => ?_)
  · unfold sp_check_terms at h
    obtain ⟨c, dx, t, os, rfl, _⟩ := h
    rfl
  · unfold sp_check_terms at h
    obtain ⟨c, dx, t, os, rfl, hc, ho, l1, l2, l3, l4, l5, l6, l7, l8, l9, e, q0⟩ := h
    refine ⟨_, (pss_cons (ps_expr (pe_callS (ok_check_name T) (hr.mono (by decide)) rfl T.m_check_name T.F_check_name.kp T.b_check_name (fun σ => passAt (takes_of rfl rfl rfl rfl) σ) (pa_cons (pe_fld (pv 0) rfl) pa_nil)))
    (pss_cons (ps_expr (pe_callS (ok_check_between T) (hr.mono (by decide)) rfl T.m_check_between T.F_check_between.kp T.b_check_between (fun σ => passAt (takes_of rfl rfl rfl rfl) σ) (pa_cons (pe_fld (pv 0) rfl) (pa_cons pe_int (pa_cons (pe_glob (v := .int 480) rfl T.m_MOST_COUNT.choose_spec ⟨_, rfl⟩) pa_nil)))))
    (pss_cons (ps_if (pt_cmpR op_notInS (pe_fld (pv 0) rfl) (pe_glob (v := .ref T.q_EVERY) rfl T.m_EVERY rfl) (by rfl)) (pss_one (ps_raiseX rfl (takes_of rfl rfl rfl rfl) (okx_OutOfRange T) (by decide) (hr.mono (by decide)) rfl T.m_OutOfRange (pa_cons (pe_fld (pv 0) rfl) pa_nil))) pss_nil)
    (pss_cons (ps_expr (pe_callS (ok_check_between T) (hr.mono (by decide)) rfl T.m_check_between T.F_check_between.kp T.b_check_between (fun σ => passAt (takes_of rfl rfl rfl rfl) σ) (pa_cons (pe_fld (pv 0) rfl) (pa_cons pe_int (pa_cons pe_int pa_nil)))))
    (pss_cons (ps_cut (ps_if (pt_cmpR op_ne (pe_fld (pv 0) rfl) pe_str (nomark _)) (pss_one (ps_expr (pe_callS (ok_check_name T) (hr.mono (by decide)) rfl T.m_check_name T.F_check_name.kp T.b_check_name (fun σ => passAt (takes_of rfl rfl rfl rfl) σ) (pa_cons (pe_fld (pv 0) rfl) pa_nil)))) pss_nil))
    (pss_cons (ps_expr (pe_callS (ok_check_word T) (hr.mono (by decide)) rfl T.m_check_word T.F_check_word.kp T.b_check_word (fun σ => passAt (takes_of rfl rfl rfl rfl) σ) (pa_cons (pe_fld (pv 0) rfl) (pa_cons (pe_glob (v := .ref T.q_RULES) rfl T.m_RULES rfl) pa_nil))))
    (pss_cons (ps_cut (ps_if (pt_cmpR op_ne (pe_fld (pv 0) rfl) pe_str (nomark _)) (pss_one (ps_expr (pe_callS (ok_check_name T) (hr.mono (by decide)) rfl T.m_check_name T.F_check_name.kp T.b_check_name (fun σ => passAt (takes_of rfl rfl rfl rfl) σ) (pa_cons (pe_fld (pv 0) rfl) pa_nil)))) pss_nil))
    (pss_cons (ps_expr (pe_callS (ok_check_between T) (hr.mono (by decide)) rfl T.m_check_between T.F_check_between.kp T.b_check_between (fun σ => passAt (takes_of rfl rfl rfl rfl) σ) (pa_cons (pe_fld (pv 0) rfl) (pa_cons pe_int (pa_cons (pe_glob (v := .int 1000000) rfl T.m_MOST_RATE.choose_spec ⟨_, rfl⟩) pa_nil)))))
    (pss_cons (ps_expr (pe_callS (ok_check_between T) (hr.mono (by decide)) rfl T.m_check_between T.F_check_between.kp T.b_check_between (fun σ => passAt (takes_of rfl rfl rfl rfl) σ) (pa_cons (pe_fld (pv 0) rfl) (pa_cons pe_int (pa_cons (pe_glob (v := .int 1000000) rfl T.m_MOST_RATE.choose_spec ⟨_, rfl⟩) pa_nil)))))
    (pss_cons (ps_expr (pe_callS (ok_check_between T) (hr.mono (by decide)) rfl T.m_check_between T.F_check_between.kp T.b_check_between (fun σ => passAt (takes_of rfl rfl rfl rfl) σ) (pa_cons (pe_fld (pv 0) rfl) (pa_cons pe_int (pa_cons (pe_glob (v := .int 1000000) rfl T.m_MOST_RATE.choose_spec ⟨_, rfl⟩) pa_nil)))))
    (pss_cons (ps_expr (pe_callS (ok_check_convention T) (hr.mono (by decide)) rfl T.m_check_convention T.F_check_convention.kp T.b_check_convention (fun σ => passAt (takes_of rfl rfl rfl rfl) σ) (pa_cons (pe_fld (pv 0) rfl) pa_nil)))
    (pss_cons (ps_expr (pe_callS (ok_check_word T) (hr.mono (by decide)) rfl T.m_check_word T.F_check_word.kp T.b_check_word (fun σ => passAt (takes_of rfl rfl rfl rfl) σ) (pa_cons (pe_fld (pv 0) rfl) (pa_cons (pe_glob (v := .ref T.q_MODES) rfl T.m_MODES rfl) pa_nil))))
    (pss_cons (ps_expr (pe_callS (ok_check_word T) (hr.mono (by decide)) rfl T.m_check_word T.F_check_word.kp T.b_check_word (fun σ => passAt (takes_of rfl rfl rfl rfl) σ) (pa_cons (pe_fld (pv 0) rfl) (pa_cons (pe_glob (v := .ref T.q_SCHEMES) rfl T.m_SCHEMES rfl) pa_nil))))
    (pss_cons (ps_expr (pe_callS (ok_check_between T) (hr.mono (by decide)) rfl T.m_check_between T.F_check_between.kp T.b_check_between (fun σ => passAt (takes_of rfl rfl rfl rfl) σ) (pa_cons (pe_fld (pv 0) rfl) (pa_cons pe_int (pa_cons (pe_glob (v := .int 479) rfl T.m_MOST_FREE.choose_spec ⟨_, rfl⟩) pa_nil)))))
    (pss_cons (ps_expr (pe_callS (ok_check_charges T) (hr.mono (by decide)) rfl T.m_check_charges T.F_check_charges.kp T.b_check_charges (fun σ => passAt (takes_of rfl rfl rfl rfl) σ) (pa_cons (pv 0) pa_nil)))
    (pss_cons (ps_if (pt_cmpR (op_neD hr.units) (pe_callTy call_to rfl T.z_tuple bt_tuple (pa_cons (pe_callB call_srtTS rfl T.z_sorted bt_sorted (pa_cons (pe_fld (pv 0) rfl) pa_nil)) pa_nil)) (pe_glob (v := .ref T.q_USUAL_ORDER) rfl T.m_USUAL_ORDER rfl) (nomark _)) (pss_one (ps_raiseX rfl (takes_of rfl rfl rfl rfl) (okx_UnknownName T) (by decide) (hr.mono (by decide)) rfl T.m_UnknownName (pa_cons pe_str pa_nil))) pss_nil)
    (pss_cons (ps_expr (pe_callS (ok_check_between T) (hr.mono (by decide)) rfl T.m_check_between T.F_check_between.kp T.b_check_between (fun σ => passAt (takes_of rfl rfl rfl rfl) σ) (pa_cons (pe_fld (pv 0) rfl) (pa_cons pe_int (pa_cons (pe_glob (v := .int 1000000) rfl T.m_MOST_RATE.choose_spec ⟨_, rfl⟩) pa_nil)))))
    (pss_one (ps_expr (pe_callS (ok_check_together T) (hr.mono (by decide)) rfl T.m_check_together T.F_check_together.kp T.b_check_together (fun σ => passAt (takes_of rfl rfl rfl rfl) σ) (pa_cons (pv 0) pa_nil))))))))))))))))))))), ?_⟩
    have q : NoErr (termErr t os) (∀ H', Same H H' → Q .non H') := q0
    clear q0
    unfold termErr at e q
    have hc0 := hc
    unfold TM.flds at hc
    walk_at "rd"
    refine check_name_go T l1 (fun z x hx => (e.f z) _ (Same.refl _) x hx) fun h1 => ?_
    replace e := e.t h1
    replace q := q.t h1
    walk_at "rd"
    refine check_between_go T (fun z x hx => (e.bf z) _ (Same.refl _) x hx) fun h1 h2 => ?_
    replace e := e.bt h1 h2
    replace q := q.bt h1 h2
    walk_at "rd"
    refine iteBN (fun h1 => ?_) (fun h1 => ?_)
    · walk_at "rd"
      exact fun x hx => (e.f h1) _ (Same.refl _) x hx
    have hev : Sz 64 t.every := every_sz h1
    replace e := e.t h1
    replace q := q.t h1
    walk_at "rd"
    refine check_between_go T (fun z x hx => (e.bf z) _ (Same.refl _) x hx) fun h1 h2 => ?_
    replace e := e.bt h1 h2
    replace q := q.bt h1 h2
    walk_at "rd"
    refine ⟨fun σ' H' => Wall (H = H' ∧ σ' = [some (.ref c)] ∧ (t.cal == "" || nameB t.cal) = true), ?_, ?_⟩
    · walk_at "rd"
      refine iteSN (fun h1 => ?_) (fun h1 => ?_)
      · have b1 : (t.cal == "") = false := by simpa using h1
        walk_at "rd"
        refine check_name_go T l2 (fun z x hx => (e.f (by rw [b1, z]; rfl)) _ (Same.refl _) x hx) fun h2 => ?_
        exact wall ⟨rfl, rfl, by rw [h2, Bool.or_true]⟩
      · exact wall ⟨rfl, rfl, by rw [h1]; rfl⟩
    rintro σ H1 ⟨w1⟩
    obtain ⟨rfl, rfl, b1⟩ := w1 trivial
    clear w1
    replace e := e.t b1
    replace q := q.t b1
    walk_at "rd"
    refine check_word_go T l3 (T.t_RULES _) rfl (fun z x hx => (e.f z) _ (Same.refl _) x hx) fun h1 => ?_
    replace e := e.t h1
    replace q := q.t h1
    walk_at "rd"
    refine ⟨fun σ' H' => Wall (H = H' ∧ σ' = [some (.ref c)] ∧ (t.index == "" || nameB t.index) = true), ?_, ?_⟩
    · walk_at "rd"
      refine iteSN (fun h1 => ?_) (fun h1 => ?_)
      · have b1 : (t.index == "") = false := by simpa using h1
        walk_at "rd"
        refine check_name_go T l4 (fun z x hx => (e.f (by rw [b1, z]; rfl)) _ (Same.refl _) x hx) fun h2 => ?_
        exact wall ⟨rfl, rfl, by rw [h2, Bool.or_true]⟩
      · exact wall ⟨rfl, rfl, by rw [h1]; rfl⟩
    rintro σ H1 ⟨w1⟩
    obtain ⟨rfl, rfl, b1⟩ := w1 trivial
    clear w1
    replace e := e.t b1
    replace q := q.t b1
    walk_at "rd"
    refine check_between_go T (fun z x hx => (e.bf z) _ (Same.refl _) x hx) fun h1 h2 => ?_
    replace e := e.bt h1 h2
    replace q := q.bt h1 h2
    walk_at "rd"
    refine check_between_go T (fun z x hx => (e.bf z) _ (Same.refl _) x hx) fun h1 h2 => ?_
    replace e := e.bt h1 h2
    replace q := q.bt h1 h2
    walk_at "rd"
    refine check_between_go T (fun z x hx => (e.bf z) _ (Same.refl _) x hx) fun h1 h2 => ?_
    replace e := e.bt h1 h2
    replace q := q.bt h1 h2
    walk_at "rd"
    refine check_convention_go T (fun z => ⟨l5, fun x hx => (e.f (by rw [z]; rfl)) _ (Same.refl _) x hx⟩) fun h1 => ?_
    replace e := e.t (decide_eq_true h1)
    replace q := q.t (decide_eq_true h1)
    walk_at "rd"
    refine check_word_go T l6 (T.t_MODES _) rfl (fun z x hx => (e.f z) _ (Same.refl _) x hx) fun h1 => ?_
    replace e := e.t h1
    replace q := q.t h1
    walk_at "rd"
    refine check_word_go T l7 (T.t_SCHEMES _) rfl (fun z x hx => (e.f z) _ (Same.refl _) x hx) fun h1 => ?_
    replace e := e.t h1
    replace q := q.t h1
    walk_at "rd"
    refine check_between_go T (fun z x hx => (e.bf z) _ (Same.refl _) x hx) fun h1 h2 => ?_
    replace e := e.bt h1 h2
    replace q := q.bt h1 h2
    walk_at "rd"
    refine check_charges_go T hc0 e.charge fun h1 => ?_
    rw [charge_or, h1, Option.none_or] at e q
    walk_at "rd"
    refine srtTS_go ho (by omega) fun ys p hpm hsrt np => ?_
    walk_at "rd"
    refine toT_go (l_of upd_same) fun p2 H1 np2 s2 e2 => ?_
    have s1 : Same H H1 := (same_new (Same.refl _) np).trans s2
    have hc1 := s1 _ _ hc
    have hc01 := s1 _ _ hc0
    have eU : v_USUAL_ORDER = usualO.map V.str := rfl
    have fy : (ys.map V.str).all flatS = true := by
      rw [List.all_map, List.all_eq_true]
      exact fun z hz => List.all_eq_true.mp l9 z (hpm.mem_iff.mp hz)
    walk_at "rx"
    refine neD_T (t_of e2) (T.t_USUAL_ORDER _) fy (by rw [eU]; decide +kernel) ?_
    rw [eU, eqL_iff sharpS sharpS]
    refine ⟨_, rfl, ?_⟩
    refine iteBN (fun h1 => ?_) (fun h1 => ?_)
    · walk_at "rd"
      rw [decide_eq_false_iff_not] at h1
      have h2 : decide (os.Perm usualO) = false := decide_eq_false fun z => h1 (congrArg _ ((usual_iff hpm hsrt).mpr z))
      exact ⟨⟨_, rfl, by decide +kernel⟩, fun x hx => (e.f h2) _ s1 x hx⟩
    rw [decide_eq_true_iff] at h1
    have h2 : decide (os.Perm usualO) = true := decide_eq_true ((usual_iff hpm hsrt).mp (Str.eq_of_map h1))
    replace e := (e.t h2).same s1
    replace q := q.t h2
    walk_at "rd"
    refine check_between_go T (fun z x hx => (e.bf z) _ (Same.refl _) x hx) fun h1 h2 => ?_
    replace e := e.bt h1 h2
    replace q := q.bt h1 h2
    walk_at "rd"
    exact check_together_go T hc01 hev e fun h1 => q h1 _ s1
theorem check_terms_go (T : Txt w K mg) {H : Hp} {Q : VK} {E : XK} {c : Addr} {dx : Addr} {t : TM} {os : List Str} (hc : H c = some (.ins T.c_Terms dx t.flds)) (ho : SqT K H t.ord (os.map V.str)) (l1 : t.name.length ≤ 1000000) (l2 : t.cal.length ≤ 1000000) (l3 : t.rule.length ≤ 1000000) (l4 : t.index.length ≤ 1000000) (l5 : t.conv.length ≤ 1000000) (l6 : t.mode.length ≤ 1000000) (l7 : t.scheme.length ≤ 1000000) (l8 : os.length ≤ 60) (l9 : os.all okS = true) (e : TermE T E H (termErr t os)) (q0 : termErr t os = none → ∀ H', Same H H' → Q .non H') : sp_check_terms T [.ref c] H Q E := by
  unfold sp_check_terms
  exact ⟨c, dx, t, os, rfl, hc, ho, l1, l2, l3, l4, l5, l6, l7, l8, l9, e, q0⟩

/-! ### Terms___init__ -/
@[irreducible] def sp_Terms___init__ (T : Txt w K mg) : Sp := fun vs H Q E => ∃ (c : Addr) (dx : Addr) (t : TM) (os : List Str), vs = (.ref c :: t.vals) ∧ (H c = some (.ins T.c_Terms dx [])) ∧ (SqT K H t.ord (os.map V.str)) ∧ (t.name.length ≤ 1000000) ∧ (t.cal.length ≤ 1000000) ∧ (t.rule.length ≤ 1000000) ∧ (t.index.length ≤ 1000000) ∧ (t.conv.length ≤ 1000000) ∧ (t.mode.length ≤ 1000000) ∧ (t.scheme.length ≤ 1000000) ∧ (os.length ≤ 60) ∧ (os.all okS = true) ∧ (∀ H', (∀ b o, b ≠ c → H b = some o → H' b = some o) → TermE T E H' (termErr t os)) ∧ (∀ H', (∀ b o, b ≠ c → H b = some o → H' b = some o) → TermsAt K T.c_Terms H' c t os → Q .non H')
theorem ok_Terms___init__ (T : Txt w K mg) : FnOk P w K mg base (L2.CX P w) 6 T.a_Terms___init__ T.fd_Terms___init__ ["self", "name", "count", "every", "due_on", "calendar", "rule", "index", "rate", "lowest", "highest", "convention", "mode", "scheme", "free", "opening_fee", "opening_part", "period_fee", "late_fee", "grace", "early_part", "early_months", "order", "penalty"] (sp_Terms___init__ T) := by
  refine T.F_Terms___init__.ok sc_Terms___init__ (fun vs H Q E h => ?_) (fun cdv A outer s H vs Q E hr h => ?_)
  · unfold sp_Terms___init__ at h
    obtain ⟨c, dx, t, os, rfl, _⟩ := h
    rfl
  · unfold sp_Terms___init__ at h
    obtain ⟨c, dx, t, os, rfl, hc, ho, l1, l2, l3, l4, l5, l6, l7, l8, l9, e, q⟩ := h
    refine ⟨_, (pss_cons (ps_fld (pv 0) (pv 1) rfl)
    (pss_cons (ps_fld (pv 0) (pv 2) rfl)
    (pss_cons (ps_fld (pv 0) (pv 3) rfl)
    (pss_cons (ps_fld (pv 0) (pv 4) rfl)
    (pss_cons (ps_fld (pv 0) (pv 5) rfl)
    (pss_cons (ps_fld (pv 0) (pv 6) rfl)
    (pss_cons (ps_fld (pv 0) (pv 7) rfl)
    (pss_cons (ps_fld (pv 0) (pv 8) rfl)
    (pss_cons (ps_fld (pv 0) (pv 9) rfl)
    (pss_cons (ps_fld (pv 0) (pv 10) rfl)
    (pss_cons (ps_fld (pv 0) (pv 11) rfl)
    (pss_cons (ps_fld (pv 0) (pv 12) rfl)
    (pss_cons (ps_fld (pv 0) (pv 13) rfl)
    (pss_cons (ps_fld (pv 0) (pv 14) rfl)
    (pss_cons (ps_fld (pv 0) (pv 15) rfl)
    (pss_cons (ps_fld (pv 0) (pv 16) rfl)
    (pss_cons (ps_fld (pv 0) (pv 17) rfl)
    (pss_cons (ps_fld (pv 0) (pv 18) rfl)
    (pss_cons (ps_fld (pv 0) (pv 19) rfl)
    (pss_cons (ps_fld (pv 0) (pv 20) rfl)
    (pss_cons (ps_fld (pv 0) (pv 21) rfl)
    (pss_cons (ps_fld (pv 0) (pv 22) rfl)
    (pss_cons (ps_fld (pv 0) (pv 23) rfl)
    (pss_one (ps_expr (pe_callS (ok_check_terms T) (hr.mono (by decide)) rfl T.m_check_terms T.F_check_terms.kp T.b_check_terms (fun σ => passAt (takes_of rfl rfl rfl rfl) σ) (pa_cons (pv 0) pa_nil))))))))))))))))))))))))))), ?_⟩
    unfold TM.vals
    have e0 : H c = some (.ins T.c_Terms dx (t.flds.take 0)) := hc
    have f0 : ∀ b, b ≠ c → H b = H b := fun _ _ => rfl
    refine ⟨_, rfl, ?_⟩
    refine ⟨_, rfl, ?_⟩
    refine stf_go e0 f0 T.cl_Terms T.na_Terms_name (Nat.le_of_ble_eq_true (by rfl)) (fs' := t.flds.take 1) rfl fun H1 e1 f1 => ?_
    clear e0 f0
    refine ⟨_, rfl, ?_⟩
    refine ⟨_, rfl, ?_⟩
    refine stf_go e1 f1 T.cl_Terms T.na_Terms_count (Nat.le_of_ble_eq_true (by rfl)) (fs' := t.flds.take 2) rfl fun H2 e2 f2 => ?_
    clear e1 f1
    refine ⟨_, rfl, ?_⟩
    refine ⟨_, rfl, ?_⟩
    refine stf_go e2 f2 T.cl_Terms T.na_Terms_every (Nat.le_of_ble_eq_true (by rfl)) (fs' := t.flds.take 3) rfl fun H3 e3 f3 => ?_
    clear e2 f2
    refine ⟨_, rfl, ?_⟩
    refine ⟨_, rfl, ?_⟩
    refine stf_go e3 f3 T.cl_Terms T.na_Terms_due_on (Nat.le_of_ble_eq_true (by rfl)) (fs' := t.flds.take 4) rfl fun H4 e4 f4 => ?_
    clear e3 f3
    refine ⟨_, rfl, ?_⟩
    refine ⟨_, rfl, ?_⟩
    refine stf_go e4 f4 T.cl_Terms T.na_Terms_calendar (Nat.le_of_ble_eq_true (by rfl)) (fs' := t.flds.take 5) rfl fun H5 e5 f5 => ?_
    clear e4 f4
    refine ⟨_, rfl, ?_⟩
    refine ⟨_, rfl, ?_⟩
    refine stf_go e5 f5 T.cl_Terms T.na_Terms_rule (Nat.le_of_ble_eq_true (by rfl)) (fs' := t.flds.take 6) rfl fun H6 e6 f6 => ?_
    clear e5 f5
    refine ⟨_, rfl, ?_⟩
    refine ⟨_, rfl, ?_⟩
    refine stf_go e6 f6 T.cl_Terms T.na_Terms_index (Nat.le_of_ble_eq_true (by rfl)) (fs' := t.flds.take 7) rfl fun H7 e7 f7 => ?_
    clear e6 f6
    refine ⟨_, rfl, ?_⟩
    refine ⟨_, rfl, ?_⟩
    refine stf_go e7 f7 T.cl_Terms T.na_Terms_rate (Nat.le_of_ble_eq_true (by rfl)) (fs' := t.flds.take 8) rfl fun H8 e8 f8 => ?_
    clear e7 f7
    refine ⟨_, rfl, ?_⟩
    refine ⟨_, rfl, ?_⟩
    refine stf_go e8 f8 T.cl_Terms T.na_Terms_lowest (Nat.le_of_ble_eq_true (by rfl)) (fs' := t.flds.take 9) rfl fun H9 e9 f9 => ?_
    clear e8 f8
    refine ⟨_, rfl, ?_⟩
    refine ⟨_, rfl, ?_⟩
    refine stf_go e9 f9 T.cl_Terms T.na_Terms_highest (Nat.le_of_ble_eq_true (by rfl)) (fs' := t.flds.take 10) rfl fun H10 e10 f10 => ?_
    clear e9 f9
    refine ⟨_, rfl, ?_⟩
    refine ⟨_, rfl, ?_⟩
    refine stf_go e10 f10 T.cl_Terms T.na_Terms_convention (Nat.le_of_ble_eq_true (by rfl)) (fs' := t.flds.take 11) rfl fun H11 e11 f11 => ?_
    clear e10 f10
    refine ⟨_, rfl, ?_⟩
    refine ⟨_, rfl, ?_⟩
    refine stf_go e11 f11 T.cl_Terms T.na_Terms_mode (Nat.le_of_ble_eq_true (by rfl)) (fs' := t.flds.take 12) rfl fun H12 e12 f12 => ?_
    clear e11 f11
    refine ⟨_, rfl, ?_⟩
    refine ⟨_, rfl, ?_⟩
    refine stf_go e12 f12 T.cl_Terms T.na_Terms_scheme (Nat.le_of_ble_eq_true (by rfl)) (fs' := t.flds.take 13) rfl fun H13 e13 f13 => ?_
    clear e12 f12
    refine ⟨_, rfl, ?_⟩
    refine ⟨_, rfl, ?_⟩
    refine stf_go e13 f13 T.cl_Terms T.na_Terms_free (Nat.le_of_ble_eq_true (by rfl)) (fs' := t.flds.take 14) rfl fun H14 e14 f14 => ?_
    clear e13 f13
    refine ⟨_, rfl, ?_⟩
    refine ⟨_, rfl, ?_⟩
    refine stf_go e14 f14 T.cl_Terms T.na_Terms_opening_fee (Nat.le_of_ble_eq_true (by rfl)) (fs' := t.flds.take 15) rfl fun H15 e15 f15 => ?_
    clear e14 f14
    refine ⟨_, rfl, ?_⟩
    refine ⟨_, rfl, ?_⟩
    refine stf_go e15 f15 T.cl_Terms T.na_Terms_opening_part (Nat.le_of_ble_eq_true (by rfl)) (fs' := t.flds.take 16) rfl fun H16 e16 f16 => ?_
    clear e15 f15
    refine ⟨_, rfl, ?_⟩
    refine ⟨_, rfl, ?_⟩
    refine stf_go e16 f16 T.cl_Terms T.na_Terms_period_fee (Nat.le_of_ble_eq_true (by rfl)) (fs' := t.flds.take 17) rfl fun H17 e17 f17 => ?_
    clear e16 f16
    refine ⟨_, rfl, ?_⟩
    refine ⟨_, rfl, ?_⟩
    refine stf_go e17 f17 T.cl_Terms T.na_Terms_late_fee (Nat.le_of_ble_eq_true (by rfl)) (fs' := t.flds.take 18) rfl fun H18 e18 f18 => ?_
    clear e17 f17
    refine ⟨_, rfl, ?_⟩
    refine ⟨_, rfl, ?_⟩
    refine stf_go e18 f18 T.cl_Terms T.na_Terms_grace (Nat.le_of_ble_eq_true (by rfl)) (fs' := t.flds.take 19) rfl fun H19 e19 f19 => ?_
    clear e18 f18
    refine ⟨_, rfl, ?_⟩
    refine ⟨_, rfl, ?_⟩
    refine stf_go e19 f19 T.cl_Terms T.na_Terms_early_part (Nat.le_of_ble_eq_true (by rfl)) (fs' := t.flds.take 20) rfl fun H20 e20 f20 => ?_
    clear e19 f19
    refine ⟨_, rfl, ?_⟩
    refine ⟨_, rfl, ?_⟩
    refine stf_go e20 f20 T.cl_Terms T.na_Terms_early_months (Nat.le_of_ble_eq_true (by rfl)) (fs' := t.flds.take 21) rfl fun H21 e21 f21 => ?_
    clear e20 f20
    refine ⟨_, rfl, ?_⟩
    refine ⟨_, rfl, ?_⟩
    refine stf_go e21 f21 T.cl_Terms T.na_Terms_order (Nat.le_of_ble_eq_true (by rfl)) (fs' := t.flds.take 22) rfl fun H22 e22 f22 => ?_
    clear e21 f21
    refine ⟨_, rfl, ?_⟩
    refine ⟨_, rfl, ?_⟩
    refine stf_go e22 f22 T.cl_Terms T.na_Terms_penalty (Nat.le_of_ble_eq_true (by rfl)) (fs' := t.flds.take 23) rfl fun H23 e23 f23 => ?_
    clear e22 f22
    
    have e24 : H23 c = some (.ins T.c_Terms dx t.flds) := e23
    have keep : ∀ b o, b ≠ c → H b = some o → H23 b = some o := fun b o hb e => (f23 b hb).trans e
    have oc : t.ord ≠ c ∨ True := .inr trivial
    have ho2 : SqT K H23 t.ord (os.map V.str) := tup_but keep hc ho
    refine ⟨_, rfl, ?_⟩
    exact check_terms_go T e24 ho2 l1 l2 l3 l4 l5 l6 l7 l8 l9 (e _ keep) fun hg H' s => q H' (fun b o hb e => s b o (keep b o hb e)) ⟨⟨dx, s _ _ e24⟩, same_tup s ho2, hg⟩
theorem Terms___init___go (T : Txt w K mg) {H : Hp} {Q : VK} {E : XK} {c : Addr} {dx : Addr} {t : TM} {os : List Str} (hc : H c = some (.ins T.c_Terms dx [])) (ho : SqT K H t.ord (os.map V.str)) (l1 : t.name.length ≤ 1000000) (l2 : t.cal.length ≤ 1000000) (l3 : t.rule.length ≤ 1000000) (l4 : t.index.length ≤ 1000000) (l5 : t.conv.length ≤ 1000000) (l6 : t.mode.length ≤ 1000000) (l7 : t.scheme.length ≤ 1000000) (l8 : os.length ≤ 60) (l9 : os.all okS = true) (e : ∀ H', (∀ b o, b ≠ c → H b = some o → H' b = some o) → TermE T E H' (termErr t os)) (q : ∀ H', (∀ b o, b ≠ c → H b = some o → H' b = some o) → TermsAt K T.c_Terms H' c t os → Q .non H') : sp_Terms___init__ T (.ref c :: t.vals) H Q E := by
  unfold sp_Terms___init__
  exact ⟨c, dx, t, os, rfl, hc, ho, l1, l2, l3, l4, l5, l6, l7, l8, l9, e, q⟩
/-- new terms -/
theorem new_terms (T : Txt w K mg) {H : Hp} {R : Addr → Hp → Prop} {E : XK} {t : TM} {os : List Str} {zs : List V} {gV : List V → List V → List V} (hv : ∀ x : Addr, gV [.ref x] zs = .ref x :: t.vals) (ho : SqT K H t.ord (os.map V.str)) (l1 : t.name.length ≤ 1000000) (l2 : t.cal.length ≤ 1000000) (l3 : t.rule.length ≤ 1000000) (l4 : t.index.length ≤ 1000000) (l5 : t.conv.length ≤ 1000000) (l6 : t.mode.length ≤ 1000000) (l7 : t.scheme.length ≤ 1000000) (l8 : os.length ≤ 60) (l9 : os.all okS = true)
    (e : ∀ H', Same H H' → TermE T E H' (termErr t os)) (q : ∀ (c : Addr) (H' : Hp), Same H H' → H c = none → TermsAt K T.c_Terms H' c t os → R c H') :
    ∀ y dy, H y = none → H dy = none → dy ≠ y → sp_Terms___init__ T (gV [.ref y] zs) (upd (upd H dy (.own y)) y (.ins T.c_Terms dy [])) (fun v H2 => v = .non ∧ R y H2) E := by
  intro y dy ny ndy ne
  rw [hv y]
  have s0 : Same H (upd (upd H dy (.own y)) y (.ins T.c_Terms dy [])) := fun b o e => by
    rw [upd_ne (ne_of_none e ny), upd_ne (ne_of_none e ndy)]
    exact e
  exact Terms___init___go T upd_same (same_tup s0 ho) l1 l2 l3 l4 l5 l6 l7 l8 l9 (fun H' s => e H' fun b o e => s b o (ne_of_none e ny) (s0 b o e)) fun H' s M => ⟨rfl, q y H' (fun b o e => s b o (ne_of_none e ny) (s0 b o e)) ny M⟩
theorem new_terms_ok (T : Txt w K mg) {H : Hp} {R : Addr → Hp → Prop} {E : XK} {t : TM} {zs : List V} {gV : List V → List V → List V} (hv : ∀ x : Addr, gV [.ref x] zs = .ref x :: t.vals) (ho : SqT K H t.ord (usualO.map V.str)) (hg : termErr t usualO = none) (l2 : t.cal.length ≤ 1000000) (l3 : t.rule.length ≤ 1000000) (l5 : t.conv.length ≤ 1000000) (l6 : t.mode.length ≤ 1000000) (l7 : t.scheme.length ≤ 1000000)
    (q : ∀ (c : Addr) (H' : Hp), Same H H' → H c = none → TermsAt K T.c_Terms H' c t usualO → R c H') :
    ∀ y dy, H y = none → H dy = none → dy ≠ y → sp_Terms___init__ T (gV [.ref y] zs) (upd (upd H dy (.own y)) y (.ins T.c_Terms dy [])) (fun v H2 => v = .non ∧ R y H2) E :=
  new_terms T hv ho (term_name hg) l2 l3 (term_index hg) l5 l6 l7 (by decide) (by decide +kernel) (fun H' _ => by rw [hg]; exact fun _ _ _ _ => trivial) q

/-! ### _law_terms -/
theorem pe_fldK {X : Cx} {e : Expr} {ta : TE} {f : Str} {pos : Pos} {K : PySem.W.Frag} (hK : X.K = K) (he : PE X e ta) (hb : attributeBase e f X.env (eval e X.env) = eval e X.env) : PE X (.Attribute e f pos) (tFld K ta f) := by
  subst hK
  exact pe_fld he hb
/-- the error at each place -/
def errL (t : TM) (os : List Str) : List (Option TErr) := [orE (nameB t.name) (.bad t.name) none, btw t.count 1 480 none, orE (isEveryT t.every) (.range t.every) none, btw t.due 1 31 none, orE (t.cal == "" || nameB t.cal) (.bad t.cal) none, orE (isRuleT t.rule) (.name t.rule) none, orE (t.index == "" || nameB t.index) (.bad t.index) none, btw t.rate 0 1000000 none, btw t.lowest 0 1000000 none, btw t.highest 0 1000000 none, orE (decide (partsOf t.conv ≠ none)) (.name t.conv) none, orE (isModeT t.mode) (.name t.mode) none, orE (isSchemeT t.scheme) (.name t.scheme) none, btw t.free 0 479 none, btw t.ofee 0 1000000000000 none, btw t.opart 0 1000 none, btw t.pfee 0 1000000000000 none, btw t.lfee 0 1000000000000 none, btw t.grace 0 90 none, btw t.epart 0 1000 none, btw t.emonths 0 480 none, orE (decide (os.Perm usualO)) (.name "order") none, btw t.pen 0 1000000 none]
def firstE : List (Option TErr) → Option TErr → Option TErr
  | [], d => d
  | o :: l, d => o.or (firstE l d)
theorem orE_fold {c : Bool} {e : TErr} {r : Option TErr} : (orE c e none).or r = orE c e r := by
  cases c <;> rfl
theorem btw_fold {v a b : Int} {r : Option TErr} : (btw v a b none).or r = btw v a b r := by
  unfold btw
  split <;> rfl
theorem termErr_first (t : TM) (os : List Str) : termErr t os = firstE (errL t os) (togetherErr t) := by
  simp only [errL, firstE, orE_fold, btw_fold]
  rfl
theorem first_none : ∀ {l : List (Option TErr)} {d : Option TErr}, (∀ i, i < l.length → l[i]? = some none) → firstE l d = d
  | [], _, _ => rfl
  | o :: l, d, h => by
    have h0 : o = none := Option.some.inj (h 0 (by simp))
    subst h0
    show firstE l d = d
    exact first_none fun i hi => h (i + 1) (by simpa using hi)
theorem first_some {e : TErr} : ∀ {l : List (Option TErr)} {d : Option TErr} {j : Nat}, (∀ i, i < j → l[i]? = some none) → l[j]? = some (some e) → firstE l d = some e
  | [], _, _, _, h => by cases h
  | o :: l, d, 0, _, h => by
    have h0 : o = some e := Option.some.inj h
    subst h0
    rfl
  | o :: l, d, j + 1, h1, h => by
    have h0 : o = none := Option.some.inj (h1 0 (by omega))
    subst h0
    show firstE l d = some e
    exact first_some (fun i hi => h1 (i + 1) (by omega)) h
/-- terms in a dict, good or not -/
structure TermX (H : Hp) (p : Addr) (t : TM) (os : List Str) : Prop where
  at_ : H p = some (.dK (zK keysL t.vals))
  ord : H t.ord = some (.tup (os.map V.str))
  l1 : t.name.length ≤ 1000000
  l2 : t.cal.length ≤ 1000000
  l3 : t.rule.length ≤ 1000000
  l4 : t.index.length ≤ 1000000
  l5 : t.conv.length ≤ 1000000
  l6 : t.mode.length ≤ 1000000
  l7 : t.scheme.length ≤ 1000000
  few : os.length ≤ 60
  oks : os.all okS = true
theorem TermX.same {H H' : Hp} {p : Addr} {t : TM} {os : List Str} (g : TermX H p t os) (s : Same H H') : TermX H' p t os :=
  ⟨s _ _ g.at_, s _ _ g.ord, g.l1, g.l2, g.l3, g.l4, g.l5, g.l6, g.l7, g.few, g.oks⟩
theorem TermX.get {H : Hp} {p : Addr} {t : TM} {os : List Str} {z : Str} {v : V} {R : Addr → V → Prop} (g : TermX H p t os) (i : Nat) (hz : keysL[i]? = some z) (hv : t.vals[i]? = some v) (q : R p v) : ∃ a v', V.ref p = .ref a ∧ DGet H a (.str z) (some v') ∧ R a v' :=
  dgetZ i g.at_ (by rw [Bool.and_eq_true, decide_eq_true_eq, decide_eq_true_eq]; exact ⟨keysL_nd, hz⟩) hv q
theorem TermD.x {H : Hp} {p : Addr} {t : TM} {os : List Str} (g : TermD H p t os) : TermX H p t os :=
  ⟨g.at_, g.ord, term_name g.good, g.cal, g.rule, term_index g.good, g.conv, g.mode, g.scheme, g.few, g.oks⟩
@[irreducible] def sp__law_terms (T : Txt w K mg) : Sp := fun vs H Q E => ∃ (p : Addr) (t : TM) (os : List Str), vs = [.ref p] ∧ TermX H p t os ∧ (∀ H', Same H H' → TermE T E H' (termErr t os)) ∧ (∀ c H', Same H H' → H c = none → TermsAt K T.c_Terms H' c t os → Q (.ref c) H')
theorem ok__law_terms (T : Txt w K mg) : FnOk P w K mg base (L2.CX P w) 9 T.a__law_terms T.fd__law_terms ["f"] (sp__law_terms T) := by
  refine T.F__law_terms.ok sc__law_terms (fun vs H Q E h => ?_) (fun cdv A outer s H vs Q E hr h => ?_)
  · unfold sp__law_terms at h
    obtain ⟨p, t, os, rfl, _⟩ := h
    rfl
  · unfold sp__law_terms at h
    obtain ⟨p, t, os, rfl, g, er, q⟩ := h
    refine ⟨_, (pss_one (ps_ret (pe_makeKX T.mk_Terms (ok_Terms___init__ T) (hr.mono (by decide)) rfl T.m_Terms (kb_Terms_0 T).choose_spec (fun σ => passAt (takes_of rfl rfl rfl rfl) σ) (pk_cons (pe_dget (hu_of hr) (pv 0) pe_str (fun _ _ => rfl)) (pk_cons (pe_dget (hu_of hr) (pv 0) pe_str (fun _ _ => rfl)) (pk_cons (pe_dget (hu_of hr) (pv 0) pe_str (fun _ _ => rfl)) (pk_cons (pe_dget (hu_of hr) (pv 0) pe_str (fun _ _ => rfl)) (pk_cons (pe_dget (hu_of hr) (pv 0) pe_str (fun _ _ => rfl)) (pk_cons (pe_dget (hu_of hr) (pv 0) pe_str (fun _ _ => rfl)) (pk_cons (pe_dget (hu_of hr) (pv 0) pe_str (fun _ _ => rfl)) (pk_cons (pe_dget (hu_of hr) (pv 0) pe_str (fun _ _ => rfl)) (pk_cons (pe_dget (hu_of hr) (pv 0) pe_str (fun _ _ => rfl)) (pk_cons (pe_dget (hu_of hr) (pv 0) pe_str (fun _ _ => rfl)) (pk_cons (pe_dget (hu_of hr) (pv 0) pe_str (fun _ _ => rfl)) (pk_cons (pe_dget (hu_of hr) (pv 0) pe_str (fun _ _ => rfl)) (pk_cons (pe_dget (hu_of hr) (pv 0) pe_str (fun _ _ => rfl)) (pk_cons (pe_dget (hu_of hr) (pv 0) pe_str (fun _ _ => rfl)) (pk_cons (pe_dget (hu_of hr) (pv 0) pe_str (fun _ _ => rfl)) (pk_cons (pe_dget (hu_of hr) (pv 0) pe_str (fun _ _ => rfl)) (pk_cons (pe_dget (hu_of hr) (pv 0) pe_str (fun _ _ => rfl)) (pk_cons (pe_dget (hu_of hr) (pv 0) pe_str (fun _ _ => rfl)) (pk_cons (pe_dget (hu_of hr) (pv 0) pe_str (fun _ _ => rfl)) (pk_cons (pe_dget (hu_of hr) (pv 0) pe_str (fun _ _ => rfl)) (pk_cons (pe_dget (hu_of hr) (pv 0) pe_str (fun _ _ => rfl)) (pk_cons (pe_dget (hu_of hr) (pv 0) pe_str (fun _ _ => rfl)) (pk_cons (pe_dget (hu_of hr) (pv 0) pe_str (fun _ _ => rfl)) pk_nil)))))))))))))))))))))))))), ?_⟩
    walk_at "rd"
    refine g.get 0 rfl rfl ?_
    walk_at "rd"
    refine g.get 1 rfl rfl ?_
    walk_at "rd"
    refine g.get 2 rfl rfl ?_
    walk_at "rd"
    refine g.get 3 rfl rfl ?_
    walk_at "rd"
    refine g.get 4 rfl rfl ?_
    walk_at "rd"
    refine g.get 5 rfl rfl ?_
    walk_at "rd"
    refine g.get 6 rfl rfl ?_
    walk_at "rd"
    refine g.get 7 rfl rfl ?_
    walk_at "rd"
    refine g.get 8 rfl rfl ?_
    walk_at "rd"
    refine g.get 9 rfl rfl ?_
    walk_at "rd"
    refine g.get 10 rfl rfl ?_
    walk_at "rd"
    refine g.get 11 rfl rfl ?_
    walk_at "rd"
    refine g.get 12 rfl rfl ?_
    walk_at "rd"
    refine g.get 13 rfl rfl ?_
    walk_at "rd"
    refine g.get 14 rfl rfl ?_
    walk_at "rd"
    refine g.get 15 rfl rfl ?_
    walk_at "rd"
    refine g.get 16 rfl rfl ?_
    walk_at "rd"
    refine g.get 17 rfl rfl ?_
    walk_at "rd"
    refine g.get 18 rfl rfl ?_
    walk_at "rd"
    refine g.get 19 rfl rfl ?_
    walk_at "rd"
    refine g.get 20 rfl rfl ?_
    walk_at "rd"
    refine g.get 21 rfl rfl ?_
    walk_at "rd"
    refine g.get 22 rfl rfl ?_
    walk_at "rd"
    refine new_terms T (t := t) (fun _ => rfl) (t_of g.ord) g.l1 g.l2 g.l3 g.l4 g.l5 g.l6 g.l7 g.few g.oks er fun c H' s nc St => ?_
    exact q c H' s nc St
theorem _law_terms_go (T : Txt w K mg) {H : Hp} {Q : VK} {E : XK} {p : Addr} {t : TM} {os : List Str} (g : TermX H p t os) (er : ∀ H', Same H H' → TermE T E H' (termErr t os)) (q : ∀ c H', Same H H' → H c = none → TermsAt K T.c_Terms H' c t os → Q (.ref c) H') : sp__law_terms T [.ref p] H Q E := by
  unfold sp__law_terms
  exact ⟨p, t, os, rfl, g, er, q⟩

/-! ### _law_told -/
def errTup (t : TM) : Option TErr → List V
  | none => [.str "value", .int t.count]
  | some (.bad z) => [.str "bad", .str z]
  | some (.range i) => [.str "range", .int i]
  | some (.name z) => [.str "name", .str z]
@[irreducible] def sp__law_told (T : Txt w K mg) : Sp := fun vs H Q E => ∃ (p : Addr) (t : TM) (os : List Str), vs = [.ref p] ∧ TermX H p t os ∧ (∀ p2 H', Same H H' → H' p2 = some (.tup (errTup t (termErr t os))) → Q (.ref p2) H')
theorem ok__law_told (T : Txt w K mg) : FnOk P w K mg base (L2.CX P w) 10 T.a__law_told T.fd__law_told ["f"] (sp__law_told T) := by
  refine T.F__law_told.ok sc__law_told (fun vs H Q E h => ?_) (fun cdv A outer s H vs Q E hr h => ?_)
  · unfold sp__law_told at h
    obtain ⟨p, t, os, rfl, _⟩ := h
    rfl
  · unfold sp__law_told at h
    obtain ⟨p, t, os, rfl, g, q⟩ := h
    refine ⟨_, (pss_one (ps_tryX rfl rfl (takes_of rfl rfl rfl rfl) (fun W pn xe tk po => (pss_one (ps_ret (pe_tup (pa_cons pe_str (pa_cons (pe_fldK (K := K) rfl (pe_callS (ok__law_terms T) (hr.mono (by decide)) rfl T.m__law_terms T.F__law_terms.kp T.b__law_terms (fun σ => passAt tk σ) (pa_cons (pv 0) pa_nil)) rfl) pa_nil))))))
      (HdsX.named (i := 1) sc__law_told.nd rfl rfl ⟨rfl, by decide, .inl T.m_BadName⟩ (fun a oe cls d pn hz hf => (pss_cons (ps_if (PW.pt (pw_or (pt_val (pe_callB (call_isX T.e_BadName.lx hz hf) rfl T.z_isinstance bt_isinstance (pa_cons (pv 1) (pa_cons (pe_glob (v := .ref T.c_OutOfRange) rfl T.m_OutOfRange rfl) pa_nil)))) (pw_or1 (pt_val (pe_callB (call_isX T.e_BadName.lx hz hf) rfl T.z_isinstance bt_isinstance (pa_cons (pv 1) (pa_cons (pe_glob (v := .ref T.c_UnknownName) rfl T.m_UnknownName rfl) pa_nil))))))) (pss_one (ps_ret (pe_tup (pa_cons pe_str (pa_cons pe_int pa_nil))))) pss_nil)
        (pss_one (ps_ret (pe_tup (pa_cons pe_str (pa_cons (pe_xf T.e_BadName.xf T.n_BadName_name hz hf (pv 1)) pa_nil)))))))
      (HdsX.named (i := 1) sc__law_told.nd rfl rfl ⟨rfl, by decide, .inl T.m_OutOfRange⟩ (fun a oe cls d pn hz hf => (pss_one (ps_ret (pe_tup (pa_cons pe_str (pa_cons (pe_xf T.e_OutOfRange.xf T.n_OutOfRange_value hz hf (pv 1)) pa_nil))))))
      (HdsX.named (i := 1) sc__law_told.nd rfl rfl ⟨rfl, by decide, .inl T.m_UnknownName⟩ (fun a oe cls d pn hz hf => (pss_one (ps_ret (pe_tup (pa_cons pe_str (pa_cons (pe_xf T.e_UnknownName.xf T.n_UnknownName_name hz hf (pv 1)) pa_nil))))))
      (HdsX.plain ⟨rfl, by decide, .inl T.m_BookError⟩ (fun a oe cls d pn hz hf => (pss_one (ps_ret (pe_tup (pa_cons pe_str (pa_cons pe_int pa_nil))))))
      HdsX.nil)))))), ?_⟩
    walk_at "rd"
    refine _law_terms_go T g (fun H1 s1 => ?_) (fun c H1 s1 nc St => ?_)
    · intro H2 s2 d nd
      cases e : termErr t os with
      | none => trivial
      | some x =>
        rw [e] at q
        cases x with
        | bad z =>
          refine wx_hit (by walk_at "exm") fun e he => ?_
          walk_at "rd"
          rename_i p hp
          exact q p _ (s1.trans (s2.trans ((same_new (Same.refl _) nd).trans (same_new (Same.refl _) hp)))) upd_same
        | range z =>
          refine wx_miss (by walk_at "exm") (wx_hit (by walk_at "exm") fun e he => ?_)
          walk_at "rd"
          rename_i p hp
          exact q p _ (s1.trans (s2.trans ((same_new (Same.refl _) nd).trans (same_new (Same.refl _) hp)))) upd_same
        | name z =>
          refine wx_miss (by walk_at "exm") (wx_miss (by walk_at "exm") (wx_hit (by walk_at "exm") fun e he => ?_))
          walk_at "rd"
          rename_i p hp
          exact q p _ (s1.trans (s2.trans ((same_new (Same.refl _) nd).trans (same_new (Same.refl _) hp)))) upd_same
    · obtain ⟨dx, i⟩ := St.ins
      rw [St.good] at q
      walk_at "rd"
      rename_i p hp
      exact q p _ (s1.trans (same_new (Same.refl _) hp)) upd_same
theorem _law_told_go (T : Txt w K mg) {H : Hp} {Q : VK} {E : XK} {p : Addr} {t : TM} {os : List Str} (g : TermX H p t os) (q : ∀ p2 H', Same H H' → H' p2 = some (.tup (errTup t (termErr t os))) → Q (.ref p2) H') : sp__law_told T [.ref p] H Q E := by
  unfold sp__law_told
  exact ⟨p, t, os, rfl, g, q⟩

/-! ### _law_cell -/
@[irreducible] def sp__law_cell (K : PySem.W.Frag) : Sp := fun vs H Q _ => ∃ (l : Addr) (ns : List Int) (j : Nat), vs = [.ref l, .int (j : Nat)] ∧ SqL K H l (ns.map V.int) ∧ ns.length ≤ 63 ∧ j < 64 ∧ Q (.int (cell ns j)) H
theorem ok__law_cell (T : Txt w K mg) : FnOk P w K mg base (L2.CX P w) 1 T.a__law_cell T.fd__law_cell ["script", "k"] (sp__law_cell K) := by
  refine T.F__law_cell.ok sc__law_cell (fun vs H Q E h => ?_) (fun cdv A outer s H vs Q E hr h => ?_)
  · unfold sp__law_cell at h
    obtain ⟨l, ns, j, rfl, _⟩ := h
    rfl
  · unfold sp__law_cell at h
    obtain ⟨l, ns, j, rfl, hs, hn, hj, q⟩ := h
    refine ⟨_, (pss_cons (ps_if (pt_cmpR op_lt (pv 1) (pe_callB call_ln rfl T.z_len bt_len (pa_cons (pv 0) pa_nil)) (nomark _)) (pss_one (ps_ret (pe_ix ix_seq (pv 0) (pv 1) (fun _ _ => rfl)))) pss_nil)
    (pss_one (ps_ret pe_int))), ?_⟩
    refine ⟨_, rfl, _, rfl, ln_l hs ⟨_, _, rfl, rfl, _, rfl, ?_⟩⟩
    rw [List.length_map]
    refine ite2 (fun h => ?_) (fun h => ?_)
    · have h' : j < ns.length := by have := of_decide_eq_true h; omega
      refine ⟨_, rfl, _, rfl, .inl ⟨l, _, _, .int (cell ns j), rfl, rfl, hs, ?_, q⟩⟩
      exact atI_map_cell h'
    · have h' : ns.length ≤ j := by
        refine Nat.le_of_not_lt fun z => h (decide_eq_true ?_)
        omega
      have e : cell ns j = 0 := by unfold cell; rw [List.getD_eq_getElem?_getD, List.getElem?_eq_none h']; rfl
      rw [e] at q
      exact q
theorem cell_go {H : Hp} {Q : VK} {E : XK} {l : Addr} {ns : List Int} (j : Nat) (hs : SqL K H l (ns.map V.int)) (hn : ns.length ≤ 63) (hj : j < 64) (q : Q (.int (cell ns j)) H) : sp__law_cell K [.ref l, .int (j : Nat)] H Q E := by
  unfold sp__law_cell
  exact ⟨l, ns, j, rfl, hs, hn, hj, q⟩
theorem cell_at {H : Hp} {Q : VK} {E : XK} {l : Addr} {ns : List Int} {x : Int} (j : Nat) (hs : SqL K H l (ns.map V.int)) (hn : ns.length ≤ 63) (hj : j < 64) (ex : x = (j : Nat)) (q : Q (.int (cell ns j)) H) : sp__law_cell K [.ref l, .int x] H Q E := by
  subst ex
  exact cell_go j hs hn hj q
local macro_rules | `(tactic| walk_at "call") => `(tactic| first | (apply cell_go 0; (walk_at "sq"); assumption; decide) | (apply cell_go 1; (walk_at "sq"); assumption; decide) | (apply cell_go 2; (walk_at "sq"); assumption; decide) | (apply cell_go 3; (walk_at "sq"); assumption; decide) | (apply cell_go 4; (walk_at "sq"); assumption; decide) | (apply cell_go 5; (walk_at "sq"); assumption; decide) | (apply cell_go 6; (walk_at "sq"); assumption; decide) | (apply cell_go 7; (walk_at "sq"); assumption; decide) | (apply cell_go 8; (walk_at "sq"); assumption; decide) | (apply cell_go 9; (walk_at "sq"); assumption; decide) | (apply cell_go 10; (walk_at "sq"); assumption; decide) | (apply cell_go 11; (walk_at "sq"); assumption; decide) | (apply cell_go 12; (walk_at "sq"); assumption; decide) | (apply cell_go 13; (walk_at "sq"); assumption; decide))

/-! ### _law_spoilt -/
def bkL : List Str := ["count", "due_on", "rate", "lowest", "highest", "free", "opening_fee", "opening_part", "period_fee", "late_fee", "grace", "early_part", "early_months", "penalty"]
def bkB : List (Int × Int) := [(0, 480), (0, 31), (-1, 1000000), (-1, 1000000), (-1, 1000000), (-1, 479), (-1, 1000000000000), (-1, 1000), (-1, 1000000000000), (-1, 1000000000000), (-1, 90), (-1, 1000), (-1, 480), (-1, 1000000)]
/-- the places of the numbers with bounds, in their order -/
def bkP : List Nat := [1, 3, 7, 8, 9, 13, 14, 15, 16, 17, 18, 19, 20, 22]
/-- the error of a value at a place -/
def ErrOf (j : Nat) (v : V) (e : TErr) : Prop :=
  ((j = 0 ∨ j = 4 ∨ j = 6) ∧ ∃ z, v = .str z ∧ e = .bad z ∧ okS z = true) ∨ ((j = 5 ∨ j = 10 ∨ j = 11 ∨ j = 12) ∧ ∃ z, v = .str z ∧ e = .name z ∧ okS z = true) ∨ (j = 21 ∧ (∃ a, v = .ref a) ∧ e = .name "order") ∨ ((j = 2 ∨ j ∈ bkP) ∧ ∃ i, v = .int i ∧ e = .range i)
/-- the terms but for the dict -/
structure TermS (H : Hp) (t : TM) (os : List Str) : Prop where
  ord : H t.ord = some (.tup (os.map V.str))
  l1 : t.name.length ≤ 1000000
  l2 : t.cal.length ≤ 1000000
  l3 : t.rule.length ≤ 1000000
  l4 : t.index.length ≤ 1000000
  l5 : t.conv.length ≤ 1000000
  l6 : t.mode.length ≤ 1000000
  l7 : t.scheme.length ≤ 1000000
  few : os.length ≤ 60
  oks : os.all okS = true
theorem TermX.s {H : Hp} {p : Addr} {t : TM} {os : List Str} (g : TermX H p t os) : TermS H t os := ⟨g.ord, g.l1, g.l2, g.l3, g.l4, g.l5, g.l6, g.l7, g.few, g.oks⟩
theorem TermS.x {H : Hp} {p : Addr} {t : TM} {os : List Str} (g : TermS H t os) (e : H p = some (.dK (zK keysL t.vals))) : TermX H p t os := ⟨e, g.ord, g.l1, g.l2, g.l3, g.l4, g.l5, g.l6, g.l7, g.few, g.oks⟩
/-- a value that spoils a place -/
def SpoilAt (H : Hp) (j : Nat) (v : V) (e : TErr) : Prop := ∀ t os, TermS H t os → ∃ t' os', t'.vals = t.vals.set j v ∧ TermS H t' os' ∧ errL t' os' = (errL t os).set j (some e)
theorem spoil_num {H : Hp} {m j : Nat} {lo hi v : Int} (hj : bkP[m]? = some j) (hb : bkB[m]? = some (lo, hi)) (hv : v ≤ lo ∨ hi < v) : SpoilAt H j (.int v) (.range v) := by
  have hm : m < 14 := (List.getElem?_eq_some_iff.mp hj).1
  have h : m = 0 ∨ m = 1 ∨ m = 2 ∨ m = 3 ∨ m = 4 ∨ m = 5 ∨ m = 6 ∨ m = 7 ∨ m = 8 ∨ m = 9 ∨ m = 10 ∨ m = 11 ∨ m = 12 ∨ m = 13 := by omega
  intro t os g
  rcases h with rfl | rfl | rfl | rfl | rfl | rfl | rfl | rfl | rfl | rfl | rfl | rfl | rfl | rfl
  · cases hj
    cases hb
    refine ⟨{ t with count := v }, os, rfl, ⟨g.ord, g.l1, g.l2, g.l3, g.l4, g.l5, g.l6, g.l7, g.few, g.oks⟩, ?_⟩
    have e : errL { t with count := v } os = (errL t os).set 1 (btw v 1 480 none) := rfl
    rw [e, btw_f (by omega)]
  · cases hj
    cases hb
    refine ⟨{ t with due := v }, os, rfl, ⟨g.ord, g.l1, g.l2, g.l3, g.l4, g.l5, g.l6, g.l7, g.few, g.oks⟩, ?_⟩
    have e : errL { t with due := v } os = (errL t os).set 3 (btw v 1 31 none) := rfl
    rw [e, btw_f (by omega)]
  · cases hj
    cases hb
    refine ⟨{ t with rate := v }, os, rfl, ⟨g.ord, g.l1, g.l2, g.l3, g.l4, g.l5, g.l6, g.l7, g.few, g.oks⟩, ?_⟩
    have e : errL { t with rate := v } os = (errL t os).set 7 (btw v 0 1000000 none) := rfl
    rw [e, btw_f (by omega)]
  · cases hj
    cases hb
    refine ⟨{ t with lowest := v }, os, rfl, ⟨g.ord, g.l1, g.l2, g.l3, g.l4, g.l5, g.l6, g.l7, g.few, g.oks⟩, ?_⟩
    have e : errL { t with lowest := v } os = (errL t os).set 8 (btw v 0 1000000 none) := rfl
    rw [e, btw_f (by omega)]
  · cases hj
    cases hb
    refine ⟨{ t with highest := v }, os, rfl, ⟨g.ord, g.l1, g.l2, g.l3, g.l4, g.l5, g.l6, g.l7, g.few, g.oks⟩, ?_⟩
    have e : errL { t with highest := v } os = (errL t os).set 9 (btw v 0 1000000 none) := rfl
    rw [e, btw_f (by omega)]
  · cases hj
    cases hb
    refine ⟨{ t with free := v }, os, rfl, ⟨g.ord, g.l1, g.l2, g.l3, g.l4, g.l5, g.l6, g.l7, g.few, g.oks⟩, ?_⟩
    have e : errL { t with free := v } os = (errL t os).set 13 (btw v 0 479 none) := rfl
    rw [e, btw_f (by omega)]
  · cases hj
    cases hb
    refine ⟨{ t with ofee := v }, os, rfl, ⟨g.ord, g.l1, g.l2, g.l3, g.l4, g.l5, g.l6, g.l7, g.few, g.oks⟩, ?_⟩
    have e : errL { t with ofee := v } os = (errL t os).set 14 (btw v 0 1000000000000 none) := rfl
    rw [e, btw_f (by omega)]
  · cases hj
    cases hb
    refine ⟨{ t with opart := v }, os, rfl, ⟨g.ord, g.l1, g.l2, g.l3, g.l4, g.l5, g.l6, g.l7, g.few, g.oks⟩, ?_⟩
    have e : errL { t with opart := v } os = (errL t os).set 15 (btw v 0 1000 none) := rfl
    rw [e, btw_f (by omega)]
  · cases hj
    cases hb
    refine ⟨{ t with pfee := v }, os, rfl, ⟨g.ord, g.l1, g.l2, g.l3, g.l4, g.l5, g.l6, g.l7, g.few, g.oks⟩, ?_⟩
    have e : errL { t with pfee := v } os = (errL t os).set 16 (btw v 0 1000000000000 none) := rfl
    rw [e, btw_f (by omega)]
  · cases hj
    cases hb
    refine ⟨{ t with lfee := v }, os, rfl, ⟨g.ord, g.l1, g.l2, g.l3, g.l4, g.l5, g.l6, g.l7, g.few, g.oks⟩, ?_⟩
    have e : errL { t with lfee := v } os = (errL t os).set 17 (btw v 0 1000000000000 none) := rfl
    rw [e, btw_f (by omega)]
  · cases hj
    cases hb
    refine ⟨{ t with grace := v }, os, rfl, ⟨g.ord, g.l1, g.l2, g.l3, g.l4, g.l5, g.l6, g.l7, g.few, g.oks⟩, ?_⟩
    have e : errL { t with grace := v } os = (errL t os).set 18 (btw v 0 90 none) := rfl
    rw [e, btw_f (by omega)]
  · cases hj
    cases hb
    refine ⟨{ t with epart := v }, os, rfl, ⟨g.ord, g.l1, g.l2, g.l3, g.l4, g.l5, g.l6, g.l7, g.few, g.oks⟩, ?_⟩
    have e : errL { t with epart := v } os = (errL t os).set 19 (btw v 0 1000 none) := rfl
    rw [e, btw_f (by omega)]
  · cases hj
    cases hb
    refine ⟨{ t with emonths := v }, os, rfl, ⟨g.ord, g.l1, g.l2, g.l3, g.l4, g.l5, g.l6, g.l7, g.few, g.oks⟩, ?_⟩
    have e : errL { t with emonths := v } os = (errL t os).set 20 (btw v 0 480 none) := rfl
    rw [e, btw_f (by omega)]
  · cases hj
    cases hb
    refine ⟨{ t with pen := v }, os, rfl, ⟨g.ord, g.l1, g.l2, g.l3, g.l4, g.l5, g.l6, g.l7, g.few, g.oks⟩, ?_⟩
    have e : errL { t with pen := v } os = (errL t os).set 22 (btw v 0 1000000 none) := rfl
    rw [e, btw_f (by omega)]
theorem spoil_every {H : Hp} {v : Int} (h : isEveryT v = false) : SpoilAt H 2 (.int v) (.range v) := fun t os g =>
  ⟨{ t with every := v }, os, rfl, ⟨g.ord, g.l1, g.l2, g.l3, g.l4, g.l5, g.l6, g.l7, g.few, g.oks⟩, by
    have e : errL { t with every := v } os = (errL t os).set 2 (orE (isEveryT v) (.range v) none) := rfl
    rw [e, orE_f h]⟩
theorem spoil_name {H : Hp} {z : Str} (h : (nameB z) = false) (hl : z.length ≤ 1000000) : SpoilAt H 0 (.str z) (.bad z) := fun t os g =>
  ⟨{ t with name := z }, os, rfl, ⟨g.ord, hl, g.l2, g.l3, g.l4, g.l5, g.l6, g.l7, g.few, g.oks⟩, by
    have e : errL { t with name := z } os = (errL t os).set 0 (orE (nameB z) (.bad z) none) := rfl
    rw [e, orE_f h]⟩
theorem spoil_cal {H : Hp} {z : Str} (h : (z == "" || nameB z) = false) (hl : z.length ≤ 1000000) : SpoilAt H 4 (.str z) (.bad z) := fun t os g =>
  ⟨{ t with cal := z }, os, rfl, ⟨g.ord, g.l1, hl, g.l3, g.l4, g.l5, g.l6, g.l7, g.few, g.oks⟩, by
    have e : errL { t with cal := z } os = (errL t os).set 4 (orE (z == "" || nameB z) (.bad z) none) := rfl
    rw [e, orE_f h]⟩
theorem spoil_rule {H : Hp} {z : Str} (h : (isRuleT z) = false) (hl : z.length ≤ 1000000) : SpoilAt H 5 (.str z) (.name z) := fun t os g =>
  ⟨{ t with rule := z }, os, rfl, ⟨g.ord, g.l1, g.l2, hl, g.l4, g.l5, g.l6, g.l7, g.few, g.oks⟩, by
    have e : errL { t with rule := z } os = (errL t os).set 5 (orE (isRuleT z) (.name z) none) := rfl
    rw [e, orE_f h]⟩
theorem spoil_index {H : Hp} {z : Str} (h : (z == "" || nameB z) = false) (hl : z.length ≤ 1000000) : SpoilAt H 6 (.str z) (.bad z) := fun t os g =>
  ⟨{ t with index := z }, os, rfl, ⟨g.ord, g.l1, g.l2, g.l3, hl, g.l5, g.l6, g.l7, g.few, g.oks⟩, by
    have e : errL { t with index := z } os = (errL t os).set 6 (orE (z == "" || nameB z) (.bad z) none) := rfl
    rw [e, orE_f h]⟩
theorem spoil_conv {H : Hp} {z : Str} (h : (decide (partsOf z ≠ none)) = false) (hl : z.length ≤ 1000000) : SpoilAt H 10 (.str z) (.name z) := fun t os g =>
  ⟨{ t with conv := z }, os, rfl, ⟨g.ord, g.l1, g.l2, g.l3, g.l4, hl, g.l6, g.l7, g.few, g.oks⟩, by
    have e : errL { t with conv := z } os = (errL t os).set 10 (orE (decide (partsOf z ≠ none)) (.name z) none) := rfl
    rw [e, orE_f h]⟩
theorem spoil_mode {H : Hp} {z : Str} (h : (isModeT z) = false) (hl : z.length ≤ 1000000) : SpoilAt H 11 (.str z) (.name z) := fun t os g =>
  ⟨{ t with mode := z }, os, rfl, ⟨g.ord, g.l1, g.l2, g.l3, g.l4, g.l5, hl, g.l7, g.few, g.oks⟩, by
    have e : errL { t with mode := z } os = (errL t os).set 11 (orE (isModeT z) (.name z) none) := rfl
    rw [e, orE_f h]⟩
theorem spoil_scheme {H : Hp} {z : Str} (h : (isSchemeT z) = false) (hl : z.length ≤ 1000000) : SpoilAt H 12 (.str z) (.name z) := fun t os g =>
  ⟨{ t with scheme := z }, os, rfl, ⟨g.ord, g.l1, g.l2, g.l3, g.l4, g.l5, g.l6, hl, g.few, g.oks⟩, by
    have e : errL { t with scheme := z } os = (errL t os).set 12 (orE (isSchemeT z) (.name z) none) := rfl
    rw [e, orE_f h]⟩
theorem spoil_order {H : Hp} {a : Addr} {os' : List Str} (ho : H a = some (.tup (os'.map V.str))) (hn : ¬ os'.Perm usualO) (hf : os'.length ≤ 60) (hk : os'.all okS = true) : SpoilAt H 21 (.ref a) (.name "order") := fun t os g =>
  ⟨{ t with ord := a }, os', rfl, ⟨ho, g.l1, g.l2, g.l3, g.l4, g.l5, g.l6, g.l7, hf, hk⟩, by
    have e : errL { t with ord := a } os' = (errL t os).set 21 (orE (decide (os'.Perm usualO)) (.name "order") none) := rfl
    rw [e, orE_f (decide_eq_false hn)]⟩
theorem bk_at {j : Nat} {z : Str} (hz : keysL[j]? = some z) : (∃ m, m < 14 ∧ bkP[m]? = some j ∧ bkL[m]? = some z) ∨ (bkL.contains z = false ∧ (j = 0 ∨ j = 2 ∨ j = 4 ∨ j = 5 ∨ j = 6 ∨ j = 10 ∨ j = 11 ∨ j = 12 ∨ j = 21)) := by
  have hj : j < 23 := (List.getElem?_eq_some_iff.mp hz).1
  have h : ∀ j : Nat, j < 23 → (∃ m, m < 14 ∧ bkP[m]? = some j ∧ bkL[m]? = keysL[j]?) ∨ (((keysL[j]?).map fun z => bkL.contains z) = some false ∧ (j = 0 ∨ j = 2 ∨ j = 4 ∨ j = 5 ∨ j = 6 ∨ j = 10 ∨ j = 11 ∨ j = 12 ∨ j = 21)) := by decide +kernel
  rcases h j hj with ⟨m, a, b, c⟩ | ⟨a, b⟩
  · exact .inl ⟨m, a, b, c.trans hz⟩
  · rw [hz] at a
    exact .inr ⟨Option.some.inj a, b⟩
theorem zK_not : ∀ {ks : List Str} {vs : List V} {z : Str}, ks.length = vs.length → ks.contains z = false → valV (zK ks vs) (Sum.inr z) = none
  | [], [], _, _, _ => rfl
  | k :: ks, w :: vs, z, h, hc => by
    rw [List.contains_cons, Bool.or_eq_false_iff] at hc
    show valV ((Sum.inr k, w) :: zK ks vs) (Sum.inr z) = none
    rw [valV_neg fun q => ?_]
    · exact zK_not (by simpa using h) hc.2
    · have : k = z := Sum.inr.inj q
      subst this
      simp at hc
/-- the bounds, n of them put in -/
structure BK (H : Hp) (p : Addr) (as : List Addr) (n : Nat) : Prop where
  at_ : H p = some (.dK (zK (bkL.take n) (as.map V.ref)))
  len : as.length = n
  tups : ∀ (i : Nat) (a : Addr), as[i]? = some a → ∃ lo hi, bkB[i]? = some (lo, hi) ∧ H a = some (.tup [.int lo, .int hi])
theorem bk_put {H0 H : Hp} {p a : Addr} {as : List Addr} {n : Nat} {z : Str} {lo hi : Int} {R : Hp → Prop} (s : Same H0 H) (np : H0 p = none) (b : BK H p as n) (ha : H a = none) (hz : bkL[n]? = some z) (hb : bkB[n]? = some (lo, hi))
    (q : ∀ H', Same H0 H' → BK H' p (as ++ [a]) (n + 1) → R H') : ∃ a' H', V.ref p = .ref a' ∧ DPut (upd H a (.tup [.int lo, .int hi])) a' (.str z) (.ref a) H' ∧ R H' := by
  have hn : n < 14 := (List.getElem?_eq_some_iff.mp hz).1
  have lk : (bkL.take n).length = n := by
    rw [List.length_take]
    show min n 14 = n
    omega
  have e1 : bkL.take (n + 1) = bkL.take n ++ [z] := by rw [List.take_add_one, hz]; rfl
  have nd0 : bkL.Nodup := by decide +kernel
  have hc : (bkL.take n).contains z = false := by
    have nd : (bkL.take (n + 1)).Nodup := nd0.sublist (List.take_sublist _ _)
    rw [e1, List.nodup_append] at nd
    rw [Bool.eq_false_iff]
    intro c
    exact nd.2.2 z (by simpa using c) z (List.mem_singleton.mpr rfl) rfl
  have apn : a ≠ p := fun z => by rw [z, b.at_] at ha; cases ha
  refine dputZ (vs := as.map V.ref) (ks := bkL.take n) (same_new s ha) np (hp_upd ha b.at_) (by rw [lk, List.length_map, b.len]) (by rw [lk]; omega) hc fun H' s' f' e' => ?_
  refine q H' s' ⟨?_, by rw [List.length_append, b.len]; rfl, fun i x hx => ?_⟩
  · rw [e1, List.map_append]
    exact e'
  · by_cases hin : i < n
    · rw [List.getElem?_append_left (by rw [b.len]; exact hin)] at hx
      obtain ⟨l, h, h1, h2⟩ := b.tups i x hx
      refine ⟨l, h, h1, ?_⟩
      have xp : x ≠ p := fun z => by rw [z, b.at_] at h2; cases h2
      rw [f' x xp]
      exact hp_upd ha h2
    · have hl := (List.getElem?_eq_some_iff.mp hx).1
      rw [List.length_append, b.len] at hl
      have : i = n := by simp at hl; omega
      subst this
      rw [List.getElem?_append_right (by rw [b.len]; exact Nat.le_refl _), b.len, Nat.sub_self] at hx
      cases hx
      refine ⟨lo, hi, hb, ?_⟩
      rw [f' a apn]
      exact upd_same
theorem strs_at (L : List Str) (f : Str → Bool) (hL : L.all f = true) {i : Int} (h0 : 0 ≤ i) (h1 : i < (L.length : Nat)) : ∃ z, atI (L.map V.str) i = some (.str z) ∧ f z = true := by
  obtain ⟨n, rfl⟩ : ∃ n : Nat, i = n := ⟨i.toNat, by omega⟩
  have hn : n < L.length := by omega
  refine ⟨L[n], atI_nat (by rw [List.getElem?_map, List.getElem?_eq_getElem hn]; rfl), List.all_eq_true.mp hL _ (List.getElem_mem hn)⟩
@[irreducible] def sp__law_spoilt (K : PySem.W.Frag) : Sp := fun vs H Q E => ∃ (j : Nat) (z : Str) (c : Int), vs = [.str z, .int c] ∧ keysL[j]? = some z ∧ Sz 1048590 c ∧ (∀ v e H', Same H H' → ErrOf j v e → SpoilAt H' j v e → Q v H')
theorem ok__law_spoilt (T : Txt w K mg) : FnOk P w K mg base (L2.CX P w) 2 T.a__law_spoilt T.fd__law_spoilt ["key", "cell"] (sp__law_spoilt K) := by
  refine T.F__law_spoilt.ok sc__law_spoilt (fun vs H Q E h => ?_) (fun cdv A outer s H vs Q E hr h => ?_)
  · unfold sp__law_spoilt at h
    obtain ⟨j, z, c, rfl, _⟩ := h
    rfl
  · unfold sp__law_spoilt at h
    obtain ⟨j, z, c0, rfl, hz, cs, q⟩ := h
    refine ⟨_, (pss_cons (ps_set (i := 1) sc__law_spoilt.nd rfl (Or.inl rfl) (pe_op op_mod (pe_callTy call_int1 rfl T.z_int bt_int (pa_cons (pv 1) pa_nil)) pe_int))
    (pss_cons (ps_set (i := 2) sc__law_spoilt.nd rfl (Or.inl rfl) (pe_ix ix_list (pe_lst (pa_cons (pe_un un_neg pe_int) (pa_cons (pe_op op_sub (pe_un un_neg pe_int) (pe_callB call_abs rfl T.z_abs bt_abs (pa_cons (pv 1) pa_nil))) pa_nil))) (pe_op op_mod (pe_callTy call_int1 rfl T.z_int bt_int (pa_cons (pv 1) pa_nil)) pe_int) (fun _ _ => rfl)))
    (pss_cons (ps_set (i := 3) sc__law_spoilt.nd rfl (Or.inl rfl) (pe_op op_add pe_int (pe_op op_mulB (pe_op op_mod (pe_op op_fdivB (pe_callTy call_int1 rfl T.z_int bt_int (pa_cons (pv 1) pa_nil)) pe_int) pe_int) (pe_callB call_abs rfl T.z_abs bt_abs (pa_cons (pv 1) pa_nil)))))
    (pss_cons (ps_set (i := 4) sc__law_spoilt.nd rfl (Or.inl rfl) (pe_disp (pps_cons pe_str (pe_tup (pa_cons pe_int (pa_cons pe_int pa_nil))) (pps_cons pe_str (pe_tup (pa_cons pe_int (pa_cons pe_int pa_nil))) (pps_cons pe_str (pe_tup (pa_cons (pe_un un_neg pe_int) (pa_cons pe_int pa_nil))) (pps_cons pe_str (pe_tup (pa_cons (pe_un un_neg pe_int) (pa_cons pe_int pa_nil))) pps_nil)))) (by rfl) (by rfl) (fun z => by cases z) (by decide)))
    (pss_cons (ps_dput (hu_of hr) (pv 4) pe_str (pe_tup (pa_cons (pe_un un_neg pe_int) (pa_cons pe_int pa_nil))) rfl)
    (pss_cons (ps_dput (hu_of hr) (pv 4) pe_str (pe_tup (pa_cons (pe_un un_neg pe_int) (pa_cons pe_int pa_nil))) rfl)
    (pss_cons (ps_dput (hu_of hr) (pv 4) pe_str (pe_tup (pa_cons (pe_un un_neg pe_int) (pa_cons pe_int pa_nil))) rfl)
    (pss_cons (ps_dput (hu_of hr) (pv 4) pe_str (pe_tup (pa_cons (pe_un un_neg pe_int) (pa_cons pe_int pa_nil))) rfl)
    (pss_cons (ps_dput (hu_of hr) (pv 4) pe_str (pe_tup (pa_cons (pe_un un_neg pe_int) (pa_cons pe_int pa_nil))) rfl)
    (pss_cons (ps_dput (hu_of hr) (pv 4) pe_str (pe_tup (pa_cons (pe_un un_neg pe_int) (pa_cons pe_int pa_nil))) rfl)
    (pss_cons (ps_dput (hu_of hr) (pv 4) pe_str (pe_tup (pa_cons (pe_un un_neg pe_int) (pa_cons pe_int pa_nil))) rfl)
    (pss_cons (ps_dput (hu_of hr) (pv 4) pe_str (pe_tup (pa_cons (pe_un un_neg pe_int) (pa_cons pe_int pa_nil))) rfl)
    (pss_cons (ps_dput (hu_of hr) (pv 4) pe_str (pe_tup (pa_cons (pe_un un_neg pe_int) (pa_cons pe_int pa_nil))) rfl)
    (pss_cons (ps_dput (hu_of hr) (pv 4) pe_str (pe_tup (pa_cons (pe_un un_neg pe_int) (pa_cons pe_int pa_nil))) rfl)
    (pss_cons (ps_if (pt_cmp (pc_din (hu_of hr) (pv 0) (pv 4))) (pss_cons (ps_if (pt_cmpR op_eq (pe_op op_mod (pe_op op_fdivB (pe_callTy call_int1 rfl T.z_int bt_int (pa_cons (pv 1) pa_nil)) pe_int) pe_int) pe_int (nomark _)) (pss_one (ps_ret (pe_op op_add (pe_op op_add (pe_ix ix_tup (pe_dget (hu_of hr) (pv 4) (pv 0) (fun _ _ => rfl)) pe_int (fun _ _ => rfl)) (pv 2)) pe_int))) pss_nil)
      (pss_one (ps_ret (pe_op op_add (pe_ix ix_tup (pe_dget (hu_of hr) (pv 4) (pv 0) (fun _ _ => rfl)) pe_int (fun _ _ => rfl)) (pv 3))))) pss_nil)
    (pss_cons (ps_if (pt_cmpR op_eq (pv 0) pe_str (nomark _)) (pss_one (ps_ret (pe_ix ix_list (pe_lst (pa_cons pe_int (pa_cons pe_int (pa_cons pe_int (pa_cons pe_int (pa_cons pe_int (pa_cons pe_int (pa_cons pe_int (pa_cons pe_int (pa_cons pe_int (pa_cons (pe_un un_neg pe_int) pa_nil))))))))))) (pe_op op_mod (pe_callTy call_int1 rfl T.z_int bt_int (pa_cons (pv 1) pa_nil)) pe_int) (fun _ _ => rfl)))) pss_nil)
    (pss_cons (ps_if (pt_cmpR op_inS (pv 0) (pe_lst (pa_cons pe_str (pa_cons pe_str (pa_cons pe_str pa_nil)))) (by rfl)) (pss_one (ps_ret (pe_ix ix_list (pe_lst (pa_cons pe_str (pa_cons pe_str (pa_cons pe_str (pa_cons pe_str (pa_cons pe_str (pa_cons pe_str pa_nil))))))) (pe_op op_mod (pe_callTy call_int1 rfl T.z_int bt_int (pa_cons (pv 1) pa_nil)) pe_int) (fun _ _ => rfl)))) pss_nil)
    (pss_cons (ps_if (pt_cmpR op_eq (pv 0) pe_str (nomark _)) (pss_one (ps_ret (pe_ix ix_list (pe_lst (pa_cons pe_str (pa_cons pe_str (pa_cons pe_str (pa_cons pe_str pa_nil))))) (pe_op op_mod (pe_callTy call_int1 rfl T.z_int bt_int (pa_cons (pv 1) pa_nil)) pe_int) (fun _ _ => rfl)))) pss_nil)
    (pss_cons (ps_if (pt_cmpR op_eq (pv 0) pe_str (nomark _)) (pss_one (ps_ret (pe_ix ix_list (pe_lst (pa_cons pe_str (pa_cons pe_str (pa_cons pe_str (pa_cons pe_str pa_nil))))) (pe_op op_mod (pe_callTy call_int1 rfl T.z_int bt_int (pa_cons (pv 1) pa_nil)) pe_int) (fun _ _ => rfl)))) pss_nil)
    (pss_cons (ps_if (pt_cmpR op_eq (pv 0) pe_str (nomark _)) (pss_one (ps_ret (pe_ix ix_list (pe_lst (pa_cons pe_str (pa_cons pe_str (pa_cons pe_str (pa_cons pe_str pa_nil))))) (pe_op op_mod (pe_callTy call_int1 rfl T.z_int bt_int (pa_cons (pv 1) pa_nil)) pe_int) (fun _ _ => rfl)))) pss_nil)
    (pss_cons (ps_if (pt_cmpR op_eq (pv 0) pe_str (nomark _)) (pss_one (ps_ret (pe_ix ix_list (pe_lst (pa_cons pe_str (pa_cons pe_str (pa_cons pe_str (pa_cons pe_str pa_nil))))) (pe_op op_mod (pe_callTy call_int1 rfl T.z_int bt_int (pa_cons (pv 1) pa_nil)) pe_int) (fun _ _ => rfl)))) pss_nil)
    (pss_cons (ps_set (i := 5) sc__law_spoilt.nd rfl (Or.inl rfl) (pe_lst (pa_cons (pe_tup (pa_cons pe_str (pa_cons pe_str pa_nil))) (pa_cons (pe_tup (pa_cons pe_str (pa_cons pe_str (pa_cons pe_str pa_nil)))) (pa_cons (pe_tup (pa_cons pe_str (pa_cons pe_str (pa_cons pe_str pa_nil)))) (pa_cons (pe_tup pa_nil) pa_nil))))))
    (pss_one (ps_ret (pe_ix ix_list (pv 5) (pe_op op_mod (pe_callTy call_int1 rfl T.z_int bt_int (pa_cons (pv 1) pa_nil)) pe_int) (fun _ _ => rfl)))))))))))))))))))))))))), ?_⟩
    have c1 : 0 ≤ c0 % 1000000000000000000000 ∧ c0 % 1000000000000000000000 < 1000000000000000000000 := by omega
    obtain ⟨lo, hlo, lo1, lo2⟩ : ∃ lo : Int, atI [V.int (-1), V.int (-1 - (if c0 % 1000000000000000000000 < 0 then -(c0 % 1000000000000000000000) else c0 % 1000000000000000000000))] (c0 % 1000000000000000000000 % 2) = some (V.int lo) ∧ lo ≤ -1 ∧ -1000000000000000000001 ≤ lo := by
      have h : c0 % 1000000000000000000000 % 2 = 0 ∨ c0 % 1000000000000000000000 % 2 = 1 := by omega
      rw [if_neg (by omega)]
      rcases h with h | h
      · rw [h]
        exact ⟨-1, rfl, by omega, by omega⟩
      · rw [h]
        exact ⟨_, rfl, by omega, by omega⟩
    have cm : CM (c0 % 1000000000000000000000 / 4 % 3) (if c0 % 1000000000000000000000 < 0 then -(c0 % 1000000000000000000000) else c0 % 1000000000000000000000) := by
      rw [if_neg (by omega)]
      exact CM.of (m := 64) (n := 201) ⟨by omega⟩ ⟨by omega⟩
    obtain ⟨hi, hhi⟩ : ∃ hi, hi = 1 + c0 % 1000000000000000000000 / 4 % 3 * (if c0 % 1000000000000000000000 < 0 then -(c0 % 1000000000000000000000) else c0 % 1000000000000000000000) := ⟨_, rfl⟩
    have hi1 : 1 ≤ hi ∧ hi < 3000000000000000000001 := by
      rw [if_neg (by omega)] at hhi
      have h : c0 % 1000000000000000000000 / 4 % 3 = 0 ∨ c0 % 1000000000000000000000 / 4 % 3 = 1 ∨ c0 % 1000000000000000000000 / 4 % 3 = 2 := by omega
      rcases h with h | h | h <;> rw [h] at hhi <;> omega
    walk_at "rd"
    rename_i b0 nb0
    refine fun p np => ?_
    walk_at "rd"
    rename_i p1 n1 p2 n2 p3 n3 p4 n4
    dsimp only [tPairs, tC, tCons, tNil]
    refine ⟨hp_upd n4 (hp_upd n3 (hp_upd n2 (hp_upd n1 upd_same))), zK (bkL.take 4) [.ref p1, .ref p2, .ref p3, .ref p4], rfl, Nat.le_of_ble_eq_true rfl, ?_⟩
    obtain ⟨H4, hH4⟩ : ∃ H4, H4 = (upd (upd (upd (upd (upd (upd H b0 (.lst [.int (-1), .int (-1 - if c0 % 1000000000000000000000 < 0 then -(c0 % 1000000000000000000000) else c0 % 1000000000000000000000)])) p (.dK [])) p1 (.tup [.int 0, .int 480])) p2 (.tup [.int 0, .int 31])) p3 (.tup [.int (-1), .int 1000000])) p4 (.tup [.int (-1), .int 1000000])) := ⟨_, rfl⟩
    have s4 : Same H H4 := by
      rw [hH4]
      exact same_new (same_new (same_new (same_new (same_new (same_new (Same.refl H) nb0) np) n1) n2) n3) n4
    have np0 : H p = none := sameZ (same_new (Same.refl H) nb0) np
    have e1 : H4 p1 = some (.tup [.int 0, .int 480]) := by rw [hH4]; exact hp_upd n4 (hp_upd n3 (hp_upd n2 upd_same))
    have e2 : H4 p2 = some (.tup [.int 0, .int 31]) := by rw [hH4]; exact hp_upd n4 (hp_upd n3 upd_same)
    have e3 : H4 p3 = some (.tup [.int (-1), .int 1000000]) := by rw [hH4]; exact hp_upd n4 upd_same
    have e4 : H4 p4 = some (.tup [.int (-1), .int 1000000]) := by rw [hH4]; exact upd_same
    have ep : H4 p = some (.dK []) := by rw [hH4]; exact hp_upd n4 (hp_upd n3 (hp_upd n2 (hp_upd n1 upd_same)))
    rw [← hH4]
    obtain ⟨H5, hH5⟩ : ∃ H5, H5 = upd H4 p (.dK (mergeK [] (zK (bkL.take 4) [.ref p1, .ref p2, .ref p3, .ref p4]))) := ⟨_, rfl⟩
    rw [← hH5]
    have s5 : Same H H5 := by rw [hH5]; exact same_set s4 np0
    have b5 : BK H5 p [p1, p2, p3, p4] 4 := by
      have k : ∀ a o, H4 a = some (.tup o) → H5 a = some (.tup o) := fun a o h => by
        rw [hH5, upd_ne fun z => by rw [z, ep] at h; cases h]
        exact h
      refine ⟨by rw [hH5, upd_same]; rfl, rfl, fun i a h => ?_⟩
      have hi : i < 4 := (List.getElem?_eq_some_iff.mp h).1
      obtain rfl | rfl | rfl | rfl : i = 0 ∨ i = 1 ∨ i = 2 ∨ i = 3 := by omega
      · cases h
        exact ⟨_, _, rfl, k _ _ e1⟩
      · cases h
        exact ⟨_, _, rfl, k _ _ e2⟩
      · cases h
        exact ⟨_, _, rfl, k _ _ e3⟩
      · cases h
        exact ⟨_, _, rfl, k _ _ e4⟩
    clear hH5 hH4 e1 e2 e3 e4 ep s4 n1 n2 n3 n4 np nb0
    walk_at "rd"
    rename_i a5 na5
    refine bk_put s5 np0 b5 na5 rfl rfl fun H6 s6 b6 => ?_
    clear s5 b5 na5
    walk_at "rd"
    rename_i a6 na6
    refine bk_put s6 np0 b6 na6 rfl rfl fun H7 s7 b7 => ?_
    clear s6 b6 na6
    walk_at "rd"
    rename_i a7 na7
    refine bk_put s7 np0 b7 na7 rfl rfl fun H8 s8 b8 => ?_
    clear s7 b7 na7
    walk_at "rd"
    rename_i a8 na8
    refine bk_put s8 np0 b8 na8 rfl rfl fun H9 s9 b9 => ?_
    clear s8 b8 na8
    walk_at "rd"
    rename_i a9 na9
    refine bk_put s9 np0 b9 na9 rfl rfl fun H10 s10 b10 => ?_
    clear s9 b9 na9
    walk_at "rd"
    rename_i a10 na10
    refine bk_put s10 np0 b10 na10 rfl rfl fun H11 s11 b11 => ?_
    clear s10 b10 na10
    walk_at "rd"
    rename_i a11 na11
    refine bk_put s11 np0 b11 na11 rfl rfl fun H12 s12 b12 => ?_
    clear s11 b11 na11
    walk_at "rd"
    rename_i a12 na12
    refine bk_put s12 np0 b12 na12 rfl rfl fun H13 s13 b13 => ?_
    clear s12 b12 na12
    walk_at "rd"
    rename_i a13 na13
    refine bk_put s13 np0 b13 na13 rfl rfl fun H14 s14 b14 => ?_
    clear s13 b13 na13
    walk_at "rd"
    rename_i a14 na14
    refine bk_put s14 np0 b14 na14 rfl rfl fun H15 s15 b15 => ?_
    clear s14 b14 na14
    have b := b15
    have s0 := s15
    have hb14 : bkL.take 14 = bkL := rfl
    have ndb : bkL.Nodup := by decide +kernel
    have be := b.at_
    rw [hb14] at be
    walk_at "rd"
    rcases bk_at hz with ⟨m, hm, hP, hL⟩ | ⟨hc, hj⟩
    · obtain ⟨a, ha⟩ : ∃ a, [p1, p2, p3, p4, a5, a6, a7, a8, a9, a10, a11, a12, a13, a14][m]? = some a := ⟨_, List.getElem?_eq_getElem (show m < [p1, p2, p3, p4, a5, a6, a7, a8, a9, a10, a11, a12, a13, a14].length from hm)⟩
      obtain ⟨l, h, hbb, hta⟩ := b.tups m a ha
      have va : valV (zK bkL ([p1, p2, p3, p4, a5, a6, a7, a8, a9, a10, a11, a12, a13, a14].map V.ref)) (Sum.inr z) = some (.ref a) := zK_val ndb hL (by rw [List.getElem?_map, ha]; rfl)
      have ta : SqT K H15 a [.int l, .int h] := t_of hta
      have ErrN : ∀ i : Int, ErrOf j (.int i) (.range i) := fun i => .inr (.inr (.inr ⟨.inr (List.mem_of_getElem? hP), i, rfl, rfl⟩))
      refine dinS be va ?_
      walk_at "rd"
      refine iteI (fun c => ?_) (fun c => ?_)
      · walk_at "rd"
        refine dgetS be va ?_
        walk_at "rd"
        exact q _ _ _ s0 (ErrN _) (spoil_num hP hbb (.inl (by omega)))
      · walk_at "rd"
        refine dgetS be va ?_
        walk_at "rd"
        refine q _ _ _ s0 (ErrN _) (spoil_num hP hbb (.inr ?_))
        rw [← hhi]
        omega
    refine dinS be (zK_not rfl hc) ?_
    rcases hj with rfl | rfl | rfl | rfl | rfl | rfl | rfl | rfl | rfl <;> cases hz
    all_goals walk_at "rd"
    · obtain ⟨v, hv, hf⟩ := strs_at ["A", "a b", "1a", "abcdefghijklm", "a_", "-"] (fun z => !(nameB z) && decide (z.length ≤ 1000000) && okS z) (by decide +kernel) (i := c0 % 1000000000000000000000 % 6) (by omega) (show _ < (6 : Int) by omega)
      rw [Bool.and_eq_true, Bool.and_eq_true, Bool.not_eq_true', decide_eq_true_eq] at hf
      refine ixL_go (l_of upd_same) hv ?_
      walk_at "rd"
      exact q _ _ _ (by walk_at "sm") (.inl ⟨.inl rfl, ⟨v, rfl, rfl, hf.2⟩⟩) (spoil_name hf.1.1 hf.1.2)
    · have hk := atI_ex [0, 5, 7, 8, 9, 10, 11, 13, 24, -1] (i := c0 % 1000000000000000000000 % 10) (by omega) (show _ < (10 : Int) by omega)
      obtain ⟨v, hm, hv⟩ := hk
      have hf : isEveryT v = false := by
        have : ∀ v ∈ ([0, 5, 7, 8, 9, 10, 11, 13, 24, -1] : List Int), isEveryT v = false := by decide +kernel
        exact this v hm
      refine ixL_go (l_of upd_same) hv ?_
      walk_at "rd"
      exact q _ _ _ (by walk_at "sm") (.inr (.inr (.inr ⟨.inl rfl, v, rfl, rfl⟩))) (spoil_every hf)
    · obtain ⟨v, hv, hf⟩ := strs_at ["A", "a b", "1a", "abcdefghijklm", "a_", "-"] (fun z => !(z == "" || nameB z) && decide (z.length ≤ 1000000) && okS z) (by decide +kernel) (i := c0 % 1000000000000000000000 % 6) (by omega) (show _ < (6 : Int) by omega)
      rw [Bool.and_eq_true, Bool.and_eq_true, Bool.not_eq_true', decide_eq_true_eq] at hf
      refine ixL_go (l_of upd_same) hv ?_
      walk_at "rd"
      exact q _ _ _ (by walk_at "sm") (.inl ⟨.inr (.inl rfl), ⟨v, rfl, rfl, hf.2⟩⟩) (spoil_cal hf.1.1 hf.1.2)
    · obtain ⟨v, hv, hf⟩ := strs_at ["", "None", "follow", "nearest"] (fun z => !(isRuleT z) && decide (z.length ≤ 1000000) && okS z) (by decide +kernel) (i := c0 % 1000000000000000000000 % 4) (by omega) (show _ < (4 : Int) by omega)
      rw [Bool.and_eq_true, Bool.and_eq_true, Bool.not_eq_true', decide_eq_true_eq] at hf
      refine ixL_go (l_of upd_same) hv ?_
      walk_at "rd"
      exact q _ _ _ (by walk_at "sm") (.inr (.inl ⟨.inl rfl, ⟨v, rfl, rfl, hf.2⟩⟩)) (spoil_rule hf.1.1 hf.1.2)
    · obtain ⟨v, hv, hf⟩ := strs_at ["A", "a b", "1a", "abcdefghijklm", "a_", "-"] (fun z => !(z == "" || nameB z) && decide (z.length ≤ 1000000) && okS z) (by decide +kernel) (i := c0 % 1000000000000000000000 % 6) (by omega) (show _ < (6 : Int) by omega)
      rw [Bool.and_eq_true, Bool.and_eq_true, Bool.not_eq_true', decide_eq_true_eq] at hf
      refine ixL_go (l_of upd_same) hv ?_
      walk_at "rd"
      exact q _ _ _ (by walk_at "sm") (.inl ⟨.inr (.inr rfl), ⟨v, rfl, rfl, hf.2⟩⟩) (spoil_index hf.1.1 hf.1.2)
    · obtain ⟨v, hv, hf⟩ := strs_at ["", "actual", "actual/364", "30/365"] (fun z => !(decide (partsOf z ≠ none)) && decide (z.length ≤ 1000000) && okS z) (by decide +kernel) (i := c0 % 1000000000000000000000 % 4) (by omega) (show _ < (4 : Int) by omega)
      rw [Bool.and_eq_true, Bool.and_eq_true, Bool.not_eq_true', decide_eq_true_eq] at hf
      refine ixL_go (l_of upd_same) hv ?_
      walk_at "rd"
      exact q _ _ _ (by walk_at "sm") (.inr (.inl ⟨.inr (.inl rfl), ⟨v, rfl, rfl, hf.2⟩⟩)) (spoil_conv hf.1.1 hf.1.2)
    · obtain ⟨v, hv, hf⟩ := strs_at ["", "Near", "half", "floor"] (fun z => !(isModeT z) && decide (z.length ≤ 1000000) && okS z) (by decide +kernel) (i := c0 % 1000000000000000000000 % 4) (by omega) (show _ < (4 : Int) by omega)
      rw [Bool.and_eq_true, Bool.and_eq_true, Bool.not_eq_true', decide_eq_true_eq] at hf
      refine ixL_go (l_of upd_same) hv ?_
      walk_at "rd"
      exact q _ _ _ (by walk_at "sm") (.inr (.inl ⟨.inr (.inr (.inl rfl)), ⟨v, rfl, rfl, hf.2⟩⟩)) (spoil_mode hf.1.1 hf.1.2)
    · obtain ⟨v, hv, hf⟩ := strs_at ["", "annuities", "Equal", "balloon"] (fun z => !(isSchemeT z) && decide (z.length ≤ 1000000) && okS z) (by decide +kernel) (i := c0 % 1000000000000000000000 % 4) (by omega) (show _ < (4 : Int) by omega)
      rw [Bool.and_eq_true, Bool.and_eq_true, Bool.not_eq_true', decide_eq_true_eq] at hf
      refine ixL_go (l_of upd_same) hv ?_
      walk_at "rd"
      exact q _ _ _ (by walk_at "sm") (.inr (.inl ⟨.inr (.inr (.inr rfl)), ⟨v, rfl, rfl, hf.2⟩⟩)) (spoil_scheme hf.1.1 hf.1.2)
    · rename_i w0 m0 w1 m1 w2 m2 w3 m3 w4 m4 w5 m5
      have sW := same_new (o := .lst [.ref w1, .ref w2, .ref w3, .ref w4]) (same_new (o := .tup []) (same_new (o := .tup [.str "interest", .str "principal", .str "fee"]) (same_new (o := .tup [.str "fees", .str "fees", .str "principal"]) (same_new (o := .tup [.str "fees", .str "interest"]) (same_new (o := .lst [.str "name", .str "calendar", .str "index"]) s0 m0) m1) m2) m3) m4) m5
      have h4 : c0 % 1000000000000000000000 % 4 = 0 ∨ c0 % 1000000000000000000000 % 4 = 1 ∨ c0 % 1000000000000000000000 % 4 = 2 ∨ c0 % 1000000000000000000000 % 4 = 3 := by omega
      have eo : ∀ a, ErrOf 21 (.ref a) (.name "order") := fun a => .inr (.inr (.inl ⟨rfl, ⟨a, rfl⟩, rfl⟩))
      rcases h4 with h4 | h4 | h4 | h4
      · refine ixL_go (l_of upd_same) (show atI [V.ref w1, V.ref w2, V.ref w3, V.ref w4] (c0 % 1000000000000000000000 % 4) = some (V.ref w1) by rw [h4]; rfl) ?_
        exact q _ _ _ sW (eo _) (spoil_order (os' := ["fees", "interest"]) (hp_upd m5 (hp_upd m4 (hp_upd m3 (hp_upd m2 upd_same)))) (by decide +kernel) (by decide +kernel) (by decide +kernel))
      · refine ixL_go (l_of upd_same) (show atI [V.ref w1, V.ref w2, V.ref w3, V.ref w4] (c0 % 1000000000000000000000 % 4) = some (V.ref w2) by rw [h4]; rfl) ?_
        exact q _ _ _ sW (eo _) (spoil_order (os' := ["fees", "fees", "principal"]) (hp_upd m5 (hp_upd m4 (hp_upd m3 upd_same))) (by decide +kernel) (by decide +kernel) (by decide +kernel))
      · refine ixL_go (l_of upd_same) (show atI [V.ref w1, V.ref w2, V.ref w3, V.ref w4] (c0 % 1000000000000000000000 % 4) = some (V.ref w3) by rw [h4]; rfl) ?_
        exact q _ _ _ sW (eo _) (spoil_order (os' := ["interest", "principal", "fee"]) (hp_upd m5 (hp_upd m4 upd_same)) (by decide +kernel) (by decide +kernel) (by decide +kernel))
      · refine ixL_go (l_of upd_same) (show atI [V.ref w1, V.ref w2, V.ref w3, V.ref w4] (c0 % 1000000000000000000000 % 4) = some (V.ref w4) by rw [h4]; rfl) ?_
        exact q _ _ _ sW (eo _) (spoil_order (os' := []) (hp_upd m5 upd_same) (by decide +kernel) (by decide +kernel) (by decide +kernel))
theorem _law_spoilt_go {H : Hp} {Q : VK} {E : XK} {j : Nat} {z : Str} {c : Int} (hz : keysL[j]? = some z) (cs : Sz 1048590 c) (q : ∀ v e H', Same H H' → ErrOf j v e → SpoilAt H' j v e → Q v H') : sp__law_spoilt K [.str z, .int c] H Q E := by
  unfold sp__law_spoilt
  exact ⟨j, z, c, rfl, hz, cs, q⟩

/-! ### _law_error -/
def errV : TErr → List V
  | .bad z => [.str "bad", .str z]
  | .range i => [.str "range", .int i]
  | .name z => [.str "name", .str z]
@[irreducible] def sp__law_error (K : PySem.W.Frag) : Sp := fun vs H Q E => ∃ (j : Nat) (z : Str) (v : V) (e : TErr), vs = [.str z, v] ∧ keysL[j]? = some z ∧ ErrOf j v e ∧ (∀ p H', Same H H' → H' p = some (.tup (errV e)) → Q (.ref p) H')
theorem ok__law_error (T : Txt w K mg) : FnOk P w K mg base (L2.CX P w) 1 T.a__law_error T.fd__law_error ["key", "value"] (sp__law_error K) := by
  refine T.F__law_error.ok sc__law_error (fun vs H Q E h => ?_) (fun cdv A outer s H vs Q E hr h => ?_)
  · unfold sp__law_error at h
    obtain ⟨j, z, v, e, rfl, _⟩ := h
    rfl
  · unfold sp__law_error at h
    obtain ⟨j, z, v, e, rfl, hz, he, q⟩ := h
    refine ⟨_, (pss_cons (ps_if (pt_cmpR op_inS (pv 0) (pe_lst (pa_cons pe_str (pa_cons pe_str (pa_cons pe_str pa_nil)))) (by rfl)) (pss_one (ps_ret (pe_tup (pa_cons pe_str (pa_cons (pv 1) pa_nil))))) pss_nil)
    (pss_cons (ps_if (pt_cmpR op_inS (pv 0) (pe_lst (pa_cons pe_str (pa_cons pe_str (pa_cons pe_str (pa_cons pe_str pa_nil))))) (by rfl)) (pss_one (ps_ret (pe_tup (pa_cons pe_str (pa_cons (pv 1) pa_nil))))) pss_nil)
    (pss_cons (ps_if (pt_cmpR op_eq (pv 0) pe_str (nomark _)) (pss_one (ps_ret (pe_tup (pa_cons pe_str (pa_cons pe_str pa_nil))))) pss_nil)
    (pss_one (ps_ret (pe_tup (pa_cons pe_str (pa_cons (pv 1) pa_nil)))))))), ?_⟩
    have kA : ∀ {j : Nat} {z : Str}, keysL[j]? = some z → inV (.str z) [.str "name", .str "calendar", .str "index"] = decide (j = 0 ∨ j = 4 ∨ j = 6) := by
      intro j z hz
      have hj : j < 23 := (List.getElem?_eq_some_iff.mp hz).1
      have h : ∀ j : Nat, j < 23 → (keysL[j]?).map (fun z => inV (.str z) [.str "name", .str "calendar", .str "index"]) = some (decide (j = 0 ∨ j = 4 ∨ j = 6)) := by decide +kernel
      have := h j hj
      rw [hz] at this
      exact Option.some.inj this
    have kB : ∀ {j : Nat} {z : Str}, keysL[j]? = some z → inV (.str z) [.str "rule", .str "convention", .str "mode", .str "scheme"] = decide (j = 5 ∨ j = 10 ∨ j = 11 ∨ j = 12) := by
      intro j z hz
      have hj : j < 23 := (List.getElem?_eq_some_iff.mp hz).1
      have h : ∀ j : Nat, j < 23 → (keysL[j]?).map (fun z => inV (.str z) [.str "rule", .str "convention", .str "mode", .str "scheme"]) = some (decide (j = 5 ∨ j = 10 ∨ j = 11 ∨ j = 12)) := by decide +kernel
      have := h j hj
      rw [hz] at this
      exact Option.some.inj this
    have kC : ∀ {j : Nat} {z : Str}, keysL[j]? = some z → decide (z = ("order" : Str)) = decide (j = 21) := by
      intro j z hz
      have hj : j < 23 := (List.getElem?_eq_some_iff.mp hz).1
      have h : ∀ j : Nat, j < 23 → (keysL[j]?).map (fun z : Str => decide (z = ("order" : Str))) = some (decide (j = 21)) := by decide +kernel
      have := h j hj
      rw [hz] at this
      exact Option.some.inj this
    have a := kA hz
    have b := kB hz
    have c := kC hz
    clear kA kB kC
    walk_at "rd"
    rename_i p1 n1
    rw [a]
    refine iteD (fun k => ?_) (fun k => ?_)
    · obtain ⟨x, rfl, rfl⟩ : ∃ x, v = .str x ∧ e = .bad x := by
        rcases he with ⟨_, x, h1, h2, _⟩ | ⟨k2, _⟩ | ⟨k2, _⟩ | ⟨k2, _⟩
        · exact ⟨x, h1, h2⟩
        · omega
        · omega
        · exfalso
          rcases k2 with k2 | k2
          · omega
          · rcases k with rfl | rfl | rfl <;> revert k2 <;> decide +kernel
      walk_at "rd"
      rename_i p2 n2
      exact q _ _ (same_new (same_new (Same.refl _) n1) n2) upd_same
    walk_at "rd"
    rename_i p2 n2
    rw [b]
    refine iteD (fun k2 => ?_) (fun k2 => ?_)
    · obtain ⟨x, rfl, rfl⟩ : ∃ x, v = .str x ∧ e = .name x := by
        rcases he with ⟨k3, _⟩ | ⟨_, x, h1, h2, _⟩ | ⟨k3, _⟩ | ⟨k3, _⟩
        · omega
        · exact ⟨x, h1, h2⟩
        · omega
        · exfalso
          rcases k3 with k3 | k3
          · omega
          · rcases k2 with rfl | rfl | rfl | rfl <;> revert k3 <;> decide +kernel
      walk_at "rd"
      rename_i p3 n3
      exact q _ _ (same_new (same_new (same_new (Same.refl _) n1) n2) n3) upd_same
    walk_at "rd"
    refine iteS (fun k3 => ?_) (fun k3 => ?_)
    · rw [decide_eq_true k3] at c
      have k4 : j = 21 := of_decide_eq_true c.symm
      obtain rfl : e = .name "order" := by
        rcases he with ⟨k3, _⟩ | ⟨k3, _⟩ | ⟨_, _, h⟩ | ⟨k3, _⟩
        · omega
        · omega
        · exact h
        · exfalso
          rcases k3 with k3 | k3
          · omega
          · subst k4; revert k3; decide +kernel
      walk_at "rd"
      rename_i p3 n3
      exact q _ _ (same_new (same_new (same_new (Same.refl _) n1) n2) n3) upd_same
    rw [decide_eq_false k3] at c
    have k4 : ¬ j = 21 := of_decide_eq_false c.symm
    obtain ⟨x, rfl, rfl⟩ : ∃ x, v = .int x ∧ e = .range x := by
      rcases he with ⟨k3, _⟩ | ⟨k3, _⟩ | ⟨k3, _⟩ | ⟨_, h⟩
      · omega
      · omega
      · omega
      · exact h
    walk_at "rd"
    rename_i p3 n3
    exact q _ _ (same_new (same_new (same_new (Same.refl _) n1) n2) n3) upd_same
theorem _law_error_go {H : Hp} {Q : VK} {E : XK} {j : Nat} {z : Str} {v : V} {e : TErr} (hz : keysL[j]? = some z) (he : ErrOf j v e) (q : ∀ p H', Same H H' → H' p = some (.tup (errV e)) → Q (.ref p) H') : sp__law_error K [.str z, v] H Q E := by
  unfold sp__law_error
  exact ⟨j, z, v, e, rfl, hz, he, q⟩

/-! ### _law_whole -/
def sp__law_whole : Sp := fun vs H Q _ => ∃ (x : V) (b : Bool), vs = [x] ∧ wholeV x = some b ∧ Q (.bl b) H
theorem ok__law_whole (T : Txt w K mg) : FnOk P w K mg base (L2.CX P w) 1 T.a__law_whole T.fd__law_whole ["x"] sp__law_whole := by
  refine T.F__law_whole.ok sc__law_whole (fun vs H Q E h => ?_) (fun cdv A outer s H vs Q E hr h => ?_)
  · obtain ⟨x, b, rfl, _⟩ := h
    rfl
  · obtain ⟨x, b, rfl, hb, q⟩ := h
    refine ⟨_, (pss_one (ps_ret (pe_and (pe_callB call_is rfl T.z_isinstance bt_isinstance (pa_cons (pv 0) (pa_cons (pe_bltn (v := .ty "int") rfl T.z_int bt_int rfl) pa_nil))) (pe_one (pe_not (pe_callB call_is rfl T.z_isinstance bt_isinstance (pa_cons (pv 0) (pa_cons (pe_bltn (v := .ty "bool") rfl T.z_bool bt_bool rfl) pa_nil)))))))), ?_⟩
    cases x with
    | int i =>
      cases hb
      walk_at "rd"
      exact q
    | bl i =>
      cases hb
      walk_at "rd"
      exact q
    | str i =>
      cases hb
      walk_at "rd"
      exact q
    | non =>
      cases hb
      walk_at "rd"
      exact q
    | byt _ => cases hb
    | flt _ => cases hb
    | ref _ => cases hb
    | ty _ => cases hb

/-! ### law -/
/-- the states of the three conditions -/
def stA (t : TM) : Prop := t.count ≤ t.free
def stB (t : TM) : Prop := t.highest < t.lowest
def stC (t : TM) : Prop := 0 < t.lfee ∧ 28 * t.every ≤ t.grace
def Good3 (t : TM) (xs : List V) : Prop := ¬ stA t ∧ ¬ stB t ∧ ¬ stC t ∧ xs = [.str "value", .int t.count]
def Late3 (t : TM) (xs : List V) : Prop := ¬ stA t ∧ ¬ stB t ∧ stC t ∧ xs = [.str "range", .int t.lfee]
def Low3 (t : TM) (xs : List V) : Prop := ¬ stA t ∧ stB t ∧ xs = [.str "range", .int t.lowest]
def Free3 (t : TM) (xs : List V) : Prop := stA t ∧ xs = [.str "range", .int t.free]
theorem tog_good {t : TM} {xs : List V} (h : Good3 t xs) : togetherErr t = none ∧ xs = errTup t none := by
  obtain ⟨a, b, c, e⟩ := h
  unfold stA at a; unfold stB at b; unfold stC at c
  exact ⟨by unfold togetherErr; rw [if_neg a, if_neg b, if_neg c], e⟩
theorem tog_late {t : TM} {xs : List V} (h : Late3 t xs) : xs = errTup t (togetherErr t) := by
  obtain ⟨a, b, c, e⟩ := h
  unfold stA at a; unfold stB at b; unfold stC at c
  unfold togetherErr
  rw [if_neg a, if_neg b, if_pos c]
  exact e
theorem tog_low {t : TM} {xs : List V} (h : Low3 t xs) : xs = errTup t (togetherErr t) := by
  obtain ⟨a, b, e⟩ := h
  unfold stA at a; unfold stB at b
  unfold togetherErr
  rw [if_neg a, if_pos b]
  exact e
theorem tog_free {t : TM} {xs : List V} (h : Free3 t xs) : xs = errTup t (togetherErr t) := by
  obtain ⟨a, e⟩ := h
  unfold stA at a
  unfold togetherErr
  rw [if_pos a]
  exact e
abbrev allN : List (Option TErr) := List.replicate 23 none
/-- all cells but one stay -/
def Keep (p : Addr) (H H' : Hp) : Prop := ∀ a o, a ≠ p → H a = some o → H' a = some o
theorem Keep.of {p : Addr} {H H' : Hp} (s : Same H H') : Keep p H H' := fun a o _ e => s a o e
theorem Keep.trans {p : Addr} {H H1 H2 : Hp} (a : Keep p H H1) (b : Keep p H1 H2) : Keep p H H2 := fun x o n e => b x o n (a x o n e)
theorem keep_l {K : PySem.W.Frag} {H H' : Hp} {p a : Addr} {kvs : List (Key × V)} {xs : List V} (keep : Keep p H H') (hp : H p = some (.dK kvs)) (h : SqL K H a xs) : SqL K H' a xs := by
  rcases h with h | h
  · rcases h with h | ⟨o, h⟩
    · exact .inl (.inl (keep _ _ (fun e => by rw [e, hp] at h; cases h) h))
    · exact .inl (.inr ⟨o, keep _ _ (fun e => by rw [e, hp] at h; cases h) h⟩)
  · exact .inr h
theorem TermX.set {H : Hp} {p : Addr} {t t' : TM} {os : List Str} {i : Nat} {z : Str} {v : V} {R : Hp → Prop} (g : TermX H p t os) (hz : keysL[i]? = some z) (hv : t'.vals = t.vals.set i v) (hk : (t'.name, t'.cal, t'.rule, t'.index, t'.conv, t'.mode, t'.scheme, t'.ord) = (t.name, t.cal, t.rule, t.index, t.conv, t.mode, t.scheme, t.ord))
    (q : ∀ H', Keep p H H' → TermX H' p t' os → R H') : ∃ a H', V.ref p = .ref a ∧ DPut H a (.str z) v H' ∧ R H' := by
  refine dsetZ (H0 := fun _ => none) i (fun b u e => by cases e) rfl g.at_ rfl (by decide) (by rw [Bool.and_eq_true, decide_eq_true_eq, decide_eq_true_eq]; exact ⟨keysL_nd, hz⟩) fun H' _ f e => ?_
  rw [← hv] at e
  simp only [Prod.mk.injEq] at hk
  obtain ⟨h1, h2, h3, h4, h5, h6, h7, h8⟩ := hk
  have kp : Keep p H H' := fun a o n e => (f a n).trans e
  exact q H' kp ⟨e, by rw [h8]; exact kp _ _ (fun z => by have := g.ord; rw [z, g.at_] at this; cases this) g.ord, h1 ▸ g.l1, h2 ▸ g.l2, h3 ▸ g.l3, h4 ▸ g.l4, h5 ▸ g.l5, h6 ▸ g.l6, h7 ▸ g.l7, g.few, g.oks⟩
theorem TermX.spoil {H : Hp} {p : Addr} {t : TM} {os : List Str} {i : Nat} {z : Str} {v : V} {e : TErr} {R : Hp → Prop} (g : TermX H p t os) (hz : keysL[i]? = some z) (hs : SpoilAt H i v e)
    (q : ∀ H' t' os', Keep p H H' → TermX H' p t' os' → t'.vals = t.vals.set i v → errL t' os' = (errL t os).set i (some e) → R H') : ∃ a H', V.ref p = .ref a ∧ DPut H a (.str z) v H' ∧ R H' := by
  obtain ⟨t', os', hv, hx, he⟩ := hs t os (TermX.s g)
  refine dsetZ (H0 := fun _ => none) i (fun b u e => by cases e) rfl g.at_ rfl (by decide) (by rw [Bool.and_eq_true, decide_eq_true_eq, decide_eq_true_eq]; exact ⟨keysL_nd, hz⟩) fun H' _ f e => ?_
  rw [← hv] at e
  have kp : Keep p H H' := fun a o n e => (f a n).trans e
  exact q H' t' os' kp ⟨e, kp _ _ (fun z => by have := hx.ord; rw [z, g.at_] at this; cases this) hx.ord, hx.l1, hx.l2, hx.l3, hx.l4, hx.l5, hx.l6, hx.l7, hx.few, hx.oks⟩ hv he
/-- the dict and what is due of it -/
structure Dct (H0 H : Hp) (pf dd : Addr) (t : TM) (os : List Str) (xs : List V) : Prop where
  s : Keep pf H0 H
  x : TermX H pf t os
  e : errL t os = allN
  d : H dd = some (.tup xs)
  f : xs.all flatS = true
theorem errL_good {t : TM} {os : List Str} (g : GoodT t) (ho : os.Perm usualO) : errL t os = allN := by
  unfold errL
  have h6 : isRuleT t.rule = true := inW_of (l := ["none", "following", "preceding", "modified"]) g.rule
  have h12 : isModeT t.mode = true := inW_of (l := ["down", "up", "near", "even"]) g.mode
  have h13 : isSchemeT t.scheme = true := inW_of (l := ["annuity", "equal", "bullet"]) g.scheme
  rw [orE_t g.name, btw_t g.count.1 g.count.2, orE_t g.every, btw_t g.due.1 g.due.2, orE_t g.cal, orE_t h6, orE_t g.index, btw_t g.rate.1 g.rate.2, btw_t g.lowest.1 g.lowest.2, btw_t g.highest.1 g.highest.2, orE_t (decide_eq_true (parts_in g.conv)), orE_t h12, orE_t h13, btw_t g.free.1 g.free.2, btw_t g.ofee.1 g.ofee.2, btw_t g.opart.1 g.opart.2, btw_t g.pfee.1 g.pfee.2, btw_t g.lfee.1 g.lfee.2, btw_t g.grace.1 g.grace.2, btw_t g.epart.1 g.epart.2, btw_t g.emonths.1 g.emonths.2, orE_t (decide_eq_true ho), btw_t g.pen.1 g.pen.2]
  rfl
theorem perm_ints {a b : List Int} (p : a.Perm b) {lo hi : Int} (h : ∀ x ∈ b, lo ≤ x ∧ x < hi) : ∀ x ∈ a, lo ≤ x ∧ x < hi := fun x hx => h x (p.mem_iff.mp hx)
theorem cnt_of {t : TM} {os : List Str} (h : errL t os = allN) : 1 ≤ t.count ∧ t.count ≤ 480 := by
  have : btw t.count 1 480 none = none := Option.some.inj (congrArg (fun l : List (Option TErr) => l[1]?) h)
  exact (btw_b this).1
theorem sorted_uniq : ∀ {a b : List Int}, a.Perm b → a.Pairwise (· ≤ ·) → b.Pairwise (· ≤ ·) → a = b
  | [], b, p, _, _ => (List.Perm.nil_eq p)
  | x :: a, [], p, _, _ => absurd p.length_eq (by simp)
  | x :: a, y :: b, p, ha, hb => by
    have h1 := List.pairwise_cons.mp ha
    have h2 := List.pairwise_cons.mp hb
    have e : x = y := by
      have a1 : x ∈ y :: b := p.mem_iff.mp List.mem_cons_self
      have a2 : y ∈ x :: a := p.mem_iff.mpr List.mem_cons_self
      rcases List.mem_cons.mp a1 with c | c
      · exact c
      rcases List.mem_cons.mp a2 with d | d
      · exact d.symm
      have := h2.1 x c
      have := h1.1 y d
      omega
    subst e
    rw [sorted_uniq (List.Perm.cons_inv p) h1.2 h2.2]
theorem errV_flat {j : Nat} {v : V} {e : TErr} (h : ErrOf j v e) : (errV e).all flatS = true := by
  rcases h with ⟨_, z, _, rfl, hk⟩ | ⟨_, z, _, rfl, hk⟩ | ⟨_, _, rfl⟩ | ⟨_, i, _, rfl⟩
  · show (flatS (.str "bad") && (flatS (.str z) && true)) = true
    rw [show flatS (.str z) = okS z from rfl, hk]
    rfl
  · show (flatS (.str "name") && (flatS (.str z) && true)) = true
    rw [show flatS (.str z) = okS z from rfl, hk]
    rfl
  · decide +kernel
  · rfl
theorem errTup_some {t : TM} {e : TErr} : errTup t (some e) = errV e := by cases e <;> rfl
/-- what the spoilt places leave: after k of them -/
def SpI (t : TM) (os : List Str) (xs : List V) (ps : List Int) (k : Nat) : Prop :=
  ∀ S : List Int, S.Perm ps → S.Pairwise (· ≤ ·) → ∃ j e, S[ps.length - k]? = some ((j : Nat) : Int) ∧ (errL t os)[j]? = some (some e) ∧ (∀ i, i < j → (errL t os)[i]? = some none) ∧ xs = errV e
theorem spI_err {t : TM} {os : List Str} {xs : List V} {ps : List Int} {k : Nat} (h : SpI t os xs ps k) : xs = errTup t (termErr t os) := by
  have hp := List.mergeSort_perm ps (fun a b => decide (a ≤ b))
  have hs : (ps.mergeSort (fun a b => decide (a ≤ b))).Pairwise (· ≤ ·) := by
    have := List.pairwise_mergeSort (le := fun a b : Int => decide (a ≤ b)) (fun a b c h1 h2 => by simp at *; omega) (fun a b => by simp; omega) ps
    exact this.imp (fun h => of_decide_eq_true h)
  obtain ⟨j, e, _, h2, h3, h4⟩ := h _ hp hs
  rw [termErr_first, first_some h3 h2, errTup_some]
  exact h4
theorem spI_next {t t' : TM} {os os' : List Str} {ps S : List Int} {k j : Nat} {e : TErr} {xs : List V} (hk : k < ps.length) (p : S.Perm ps) (s : S.Pairwise (· ≤ ·)) (hj : S[ps.length - 1 - k]? = some ((j : Nat) : Int)) (hj2 : j < 23)
    (h0 : k = 0 → errL t os = allN) (h1 : k ≠ 0 → SpI t os xs ps k) (he : errL t' os' = (errL t os).set j (some e)) : SpI t' os' (errV e) ps (k + 1) := by
  intro S' p' s'
  have := sorted_uniq (p'.trans p.symm) s' s
  subst this
  refine ⟨j, e, by rw [show ps.length - (k + 1) = ps.length - 1 - k by omega]; exact hj, ?_, fun i hi => ?_, rfl⟩
  · rw [he, List.getElem?_set_self (show j < (errL t os).length from hj2)]
  · rw [he, List.getElem?_set_ne (by omega)]
    by_cases c : k = 0
    · rw [h0 c]
      exact List.getElem?_replicate_of_lt (by omega)
    · obtain ⟨j0, e0, a1, _, a3, _⟩ := h1 c S' p' s'
      have hle : (j : Int) ≤ (j0 : Int) := by
        obtain ⟨l1, g1⟩ := List.getElem?_eq_some_iff.mp hj
        obtain ⟨l2, g2⟩ := List.getElem?_eq_some_iff.mp a1
        rw [← g1, ← g2]
        exact List.pairwise_iff_getElem.mp s' _ _ l1 l2 (by omega)
      exact a3 i (by omega)
theorem ok_law (T : Txt w K mg) : FnOk P w K mg base (L2.CX P w) 11 T.a_law T.fd_law ["script"] (sp_law K) := by
  refine T.F_law.ok sc_law (fun vs H Q E h => ?_) (fun cdv A outer s H vs Q E hr h => ?_)
  · obtain ⟨l, ns, rfl, _⟩ := h
    rfl
  · obtain ⟨l0, ns, rfl, hs, hn, hb, q⟩ := h
    refine ⟨_, (pss_cons (ps_set (i := 1) sc_law.nd rfl (Or.inl rfl) (pe_callS (ok__law_fields T) (hr.mono (by decide)) rfl T.m__law_fields T.F__law_fields.kp T.b__law_fields (fun σ => passAt (takes_of rfl rfl rfl rfl) σ) (pa_cons (pe_callS (ok__law_cell T) (hr.mono (by decide)) rfl T.m__law_cell T.F__law_cell.kp T.b__law_cell (fun σ => passAt (takes_of rfl rfl rfl rfl) σ) (pa_cons (pv 0) (pa_cons pe_int pa_nil))) (pa_cons pe_str pa_nil))))
    (pss_cons (ps_set (i := 2) sc_law.nd rfl (Or.inl rfl) (pe_callS0 (ok__law_keys T) (hr.mono (by decide)) rfl T.m__law_keys T.F__law_keys.kp T.b__law_keys (fun σ => passAt (takes_of rfl rfl rfl rfl) σ)))
    (pss_cons (ps_set (i := 3) sc_law.nd rfl (Or.inl rfl) (pe_lst pa_nil))
    (pss_cons (ps_cut (ps_if (pt_cmpR op_gt (pe_op op_mod (pe_callTy call_int1 rfl T.z_int bt_int (pa_cons (pe_callS (ok__law_cell T) (hr.mono (by decide)) rfl T.m__law_cell T.F__law_cell.kp T.b__law_cell (fun σ => passAt (takes_of rfl rfl rfl rfl) σ) (pa_cons (pv 0) (pa_cons pe_int pa_nil))) pa_nil)) pe_int) pe_int (nomark _)) (pss_one (ps_expr (pe_bm PySem.F.plainAttrs_list PySem.F.slot_list_append PySem.F.type_list_append mt_app (pv 3) (pa_cons (pe_op op_mod (pe_callTy call_int1 rfl T.z_int bt_int (pa_cons (pe_callS (ok__law_cell T) (hr.mono (by decide)) rfl T.m__law_cell T.F__law_cell.kp T.b__law_cell (fun σ => passAt (takes_of rfl rfl rfl rfl) σ) (pa_cons (pv 0) (pa_cons pe_int pa_nil))) pa_nil)) pe_int) pa_nil)))) pss_nil))
    (pss_cons (ps_cut (ps_if (pt_cmpR op_eq (pe_op op_mod (pe_callTy call_int1 rfl T.z_int bt_int (pa_cons (pe_callS (ok__law_cell T) (hr.mono (by decide)) rfl T.m__law_cell T.F__law_cell.kp T.b__law_cell (fun σ => passAt (takes_of rfl rfl rfl rfl) σ) (pa_cons (pv 0) (pa_cons pe_int pa_nil))) pa_nil)) pe_int) pe_int (nomark _)) (pss_one (ps_expr (pe_bm PySem.F.plainAttrs_list PySem.F.slot_list_append PySem.F.type_list_append mt_app (pv 3) (pa_cons (pe_op op_mod (pe_callTy call_int1 rfl T.z_int bt_int (pa_cons (pe_callS (ok__law_cell T) (hr.mono (by decide)) rfl T.m__law_cell T.F__law_cell.kp T.b__law_cell (fun σ => passAt (takes_of rfl rfl rfl rfl) σ) (pa_cons (pv 0) (pa_cons pe_int pa_nil))) pa_nil)) pe_int) pa_nil)))) pss_nil))
    (pss_cons (ps_set (i := 4) sc_law.nd rfl (Or.inl rfl) (pe_tup (pa_cons pe_str (pa_cons (pe_dget (hu_of hr) (pv 1) pe_str (fun _ _ => rfl)) pa_nil))))
    (pss_cons (ps_set (i := 5) sc_law.nd rfl (Or.inl rfl) (pe_op op_mod (pe_op op_fdivB (pe_callTy call_int1 rfl T.z_int bt_int (pa_cons (pe_callS (ok__law_cell T) (hr.mono (by decide)) rfl T.m__law_cell T.F__law_cell.kp T.b__law_cell (fun σ => passAt (takes_of rfl rfl rfl rfl) σ) (pa_cons (pv 0) (pa_cons pe_int pa_nil))) pa_nil)) pe_int) pe_int))
    (pss_cons (ps_cut (ps_if (pt_cmpR op_eq (pv 5) pe_int (nomark _)) (pss_cons (ps_dput (hu_of hr) (pv 1) pe_str (pe_op op_add pe_int (pe_op op_mod (pe_callTy call_int1 rfl T.z_int bt_int (pa_cons (pe_callS (ok__law_cell T) (hr.mono (by decide)) rfl T.m__law_cell T.F__law_cell.kp T.b__law_cell (fun σ => passAt (takes_of rfl rfl rfl rfl) σ) (pa_cons (pv 0) (pa_cons pe_int pa_nil))) pa_nil)) pe_int)) rfl)
      (pss_cons (ps_dput (hu_of hr) (pv 1) pe_str (pe_op op_add pe_int (pe_op op_mod (pe_callTy call_int1 rfl T.z_int bt_int (pa_cons (pe_callS (ok__law_cell T) (hr.mono (by decide)) rfl T.m__law_cell T.F__law_cell.kp T.b__law_cell (fun σ => passAt (takes_of rfl rfl rfl rfl) σ) (pa_cons (pv 0) (pa_cons pe_int pa_nil))) pa_nil)) pe_int)) rfl)
      (pss_cons (ps_dput (hu_of hr) (pv 1) pe_str (pe_callB (call_mn rfl) rfl T.z_min bt_min (pa_cons pe_int (pa_cons (pe_op op_add (pe_op op_mulB pe_int (pe_dget (hu_of hr) (pv 1) pe_str (fun _ _ => rfl))) (pe_op op_mod (pe_callTy call_int1 rfl T.z_int bt_int (pa_cons (pe_callS (ok__law_cell T) (hr.mono (by decide)) rfl T.m__law_cell T.F__law_cell.kp T.b__law_cell (fun σ => passAt (takes_of rfl rfl rfl rfl) σ) (pa_cons (pv 0) (pa_cons pe_int pa_nil))) pa_nil)) pe_int)) pa_nil))) rfl)
      (pss_one (ps_set (i := 4) sc_law.nd rfl (Or.inl rfl) (pe_tup (pa_cons pe_str (pa_cons (pe_dget (hu_of hr) (pv 1) pe_str (fun _ _ => rfl)) pa_nil)))))))) pss_nil))
    (pss_cons (ps_cut (ps_if (pt_cmpR op_eq (pv 5) pe_int (nomark _)) (pss_cons (ps_dput (hu_of hr) (pv 1) pe_str (pe_op op_mod (pe_callTy call_int1 rfl T.z_int bt_int (pa_cons (pe_callS (ok__law_cell T) (hr.mono (by decide)) rfl T.m__law_cell T.F__law_cell.kp T.b__law_cell (fun σ => passAt (takes_of rfl rfl rfl rfl) σ) (pa_cons (pv 0) (pa_cons pe_int pa_nil))) pa_nil)) pe_int) rfl)
      (pss_cons (ps_dput (hu_of hr) (pv 1) pe_str (pe_op op_add (pe_dget (hu_of hr) (pv 1) pe_str (fun _ _ => rfl)) pe_int) rfl)
      (pss_one (ps_set (i := 4) sc_law.nd rfl (Or.inl rfl) (pe_tup (pa_cons pe_str (pa_cons (pe_dget (hu_of hr) (pv 1) pe_str (fun _ _ => rfl)) pa_nil))))))) pss_nil))
    (pss_cons (ps_cut (ps_if (pt_cmpR op_eq (pv 5) pe_int (nomark _)) (pss_cons (ps_dput (hu_of hr) (pv 1) pe_str (pe_callB (call_mn rfl) rfl T.z_min bt_min (pa_cons pe_int (pa_cons (pe_dget (hu_of hr) (pv 1) pe_str (fun _ _ => rfl)) pa_nil))) rfl)
      (pss_cons (ps_dput (hu_of hr) (pv 1) pe_str (pe_callB (call_mn rfl) rfl T.z_min bt_min (pa_cons pe_int (pa_cons (pe_op op_add (pe_dget (hu_of hr) (pv 1) pe_str (fun _ _ => rfl)) (pe_op op_mod (pe_callTy call_int1 rfl T.z_int bt_int (pa_cons (pe_callS (ok__law_cell T) (hr.mono (by decide)) rfl T.m__law_cell T.F__law_cell.kp T.b__law_cell (fun σ => passAt (takes_of rfl rfl rfl rfl) σ) (pa_cons (pv 0) (pa_cons pe_int pa_nil))) pa_nil)) pe_int)) pa_nil))) rfl)
      (pss_one (ps_set (i := 4) sc_law.nd rfl (Or.inl rfl) (pe_tup (pa_cons pe_str (pa_cons (pe_dget (hu_of hr) (pv 1) pe_str (fun _ _ => rfl)) pa_nil))))))) pss_nil))
    (pss_cons (ps_cut (ps_if (PW.pt (pw_and (pt_cmpR op_eq (pe_op op_mod (pe_op op_fdivB (pe_callTy call_int1 rfl T.z_int bt_int (pa_cons (pe_callS (ok__law_cell T) (hr.mono (by decide)) rfl T.m__law_cell T.F__law_cell.kp T.b__law_cell (fun σ => passAt (takes_of rfl rfl rfl rfl) σ) (pa_cons (pv 0) (pa_cons pe_int pa_nil))) pa_nil)) pe_int) pe_int) pe_int (nomark _)) (pw_and1 (pt_cmpR op_eq (pv 5) pe_int (nomark _))))) (pss_cons (ps_dput (hu_of hr) (pv 1) pe_str pe_int rfl)
      (pss_one (ps_dput (hu_of hr) (pv 1) pe_str pe_int rfl))) pss_nil))
    (pss_cons (ps_cut (ps_if (PW.pt (pw_and (pt_cmpR op_eq (pe_op op_mod (pe_op op_fdivB (pe_callTy call_int1 rfl T.z_int bt_int (pa_cons (pe_callS (ok__law_cell T) (hr.mono (by decide)) rfl T.m__law_cell T.F__law_cell.kp T.b__law_cell (fun σ => passAt (takes_of rfl rfl rfl rfl) σ) (pa_cons (pv 0) (pa_cons pe_int pa_nil))) pa_nil)) pe_int) pe_int) pe_int (nomark _)) (pw_and1 (pt_cmpR op_eq (pv 5) pe_int (nomark _))))) (pss_cons (ps_dput (hu_of hr) (pv 1) pe_str pe_int rfl)
      (pss_cons (ps_dput (hu_of hr) (pv 1) pe_str pe_int rfl)
      (pss_one (ps_dput (hu_of hr) (pv 1) pe_str pe_int rfl)))) pss_nil))
    (pss_cons (ps_for (passes_of rfl) rfl (pi_range1 rfl T.z_range (pa_cons (pe_callB call_ln rfl T.z_len bt_len (pa_cons (pv 3) pa_nil)) pa_nil)) (pg_name (i := 6) sc_law.nd rfl (Or.inl rfl))
      (pss_cons (ps_set (i := 7) sc_law.nd rfl (Or.inl rfl) (pe_ix ix_list (pv 2) (pe_ix ix_list (pe_callB call_srtI rfl T.z_sorted bt_sorted (pa_cons (pv 3) pa_nil)) (pe_op op_sub (pe_op op_sub (pe_callB call_ln rfl T.z_len bt_len (pa_cons (pv 3) pa_nil)) pe_int) (pv 6)) (fun _ _ => rfl)) (fun _ _ => rfl)))
      (pss_cons (ps_dput (hu_of hr) (pv 1) (pv 7) (pe_callS (ok__law_spoilt T) (hr.mono (by decide)) rfl T.m__law_spoilt T.F__law_spoilt.kp T.b__law_spoilt (fun σ => passAt (takes_of rfl rfl rfl rfl) σ) (pa_cons (pv 7) (pa_cons (pe_callS (ok__law_cell T) (hr.mono (by decide)) rfl T.m__law_cell T.F__law_cell.kp T.b__law_cell (fun σ => passAt (takes_of rfl rfl rfl rfl) σ) (pa_cons (pv 0) (pa_cons (pe_op op_add pe_int (pv 6)) pa_nil))) pa_nil))) rfl)
      (pss_one (ps_set (i := 4) sc_law.nd rfl (Or.inl rfl) (pe_callS (ok__law_error T) (hr.mono (by decide)) rfl T.m__law_error T.F__law_error.kp T.b__law_error (fun σ => passAt (takes_of rfl rfl rfl rfl) σ) (pa_cons (pv 7) (pa_cons (pe_dget (hu_of hr) (pv 1) (pv 7) (fun _ _ => rfl)) pa_nil))))))))
    (pss_cons (ps_cut (ps_if (PW.pt (pw_and (pt_cmpR op_eq (pv 5) pe_int (nomark _)) (pw_and1 (pt_cmpR op_eq (pe_callB call_ln rfl T.z_len bt_len (pa_cons (pv 3) pa_nil)) pe_int (nomark _))))) (pss_one (ps_set (i := 4) sc_law.nd rfl (Or.inl rfl) (pe_tup (pa_cons pe_str (pa_cons (pe_dget (hu_of hr) (pv 1) pe_str (fun _ _ => rfl)) pa_nil))))) pss_nil))
    (pss_cons (ps_set (i := 8) sc_law.nd rfl (Or.inl rfl) (pe_callS (ok__law_told T) (hr.mono (by decide)) rfl T.m__law_told T.F__law_told.kp T.b__law_told (fun σ => passAt (takes_of rfl rfl rfl rfl) σ) (pa_cons (pv 1) pa_nil)))
    (pss_cons (ps_if (pt_val (pe_callB call_is rfl T.z_isinstance bt_isinstance (pa_cons (pe_ix ix_tup (pv 4) pe_int (fun _ _ => rfl)) (pa_cons (pe_bltn (v := .ty "str") rfl T.z_str bt_str rfl) pa_nil)))) (pss_one (ps_ret (pe_and (pe_cmpR (op_eqD hr.units) (pv 8) (pv 4) (nomark _)) (pe_one (pe_callB call_is rfl T.z_isinstance bt_isinstance (pa_cons (pe_ix ix_tup (pv 8) pe_int (fun _ _ => rfl)) (pa_cons (pe_bltn (v := .ty "str") rfl T.z_str bt_str rfl) pa_nil))))))) pss_nil)
    (pss_one (ps_ret (pe_and (pe_cmpR (op_eqD hr.units) (pv 8) (pv 4) (nomark _)) (pe_one (pe_callS (ok__law_whole T) (hr.mono (by decide)) rfl T.m__law_whole T.F__law_whole.kp T.b__law_whole (fun σ => passAt (takes_of rfl rfl rfl rfl) σ) (pa_cons (pe_ix ix_tup (pv 8) pe_int (fun _ _ => rfl)) pa_nil)))))))))))))))))))))), ?_⟩
    walk_at "rd"
    refine _law_fields_go ((cell_sz hb _).mono (by decide)) (by decide +kernel) fun pf H1 t0 os s1 n1 g0 _ => ?_
    have gd := (good_of g0.good).1
    have go := (good_of g0.good).2
    have eL0 := errL_good gd go
    have x0 := TermD.x g0
    have hs1 := same_lst s1 hs
    walk_at "rd"
    refine _law_keys_go fun pk H2 s2 e2 => ?_
    have hs2 := same_lst s2 hs1
    have x2 := x0.same s2
    walk_at "rd"
    rename_i pp np
    have hs3 := same_lst (same_new (o := .lst []) (Same.refl H2) np) hs2
    refine ⟨fun σ' H' => Wall (∃ ps : List Int, σ' = [some (.ref l0), some (.ref pf), some (.ref pk), some (.ref pp), none, none, none, none, none] ∧ Same H2 H' ∧ H' pp = some (.lst (ps.map V.int)) ∧ ps.length ≤ 1 ∧ ∀ x ∈ ps, 0 ≤ x ∧ x < 23), ?_, ?_⟩
    · walk_at "rd"
      refine iteD (fun _ => ?_) (fun _ => ?_)
      · walk_at "rd"
        exact wall ⟨[cell ns 2 % 23], rfl, same_set (same_new (Same.refl H2) np) np, upd_same, Nat.le_refl _, fun x hx => by rw [List.mem_singleton.mp hx]; omega⟩
      · exact wall ⟨[], rfl, same_new (Same.refl H2) np, upd_same, by decide, fun x hx => by cases hx⟩
    rintro σ H3 ⟨w⟩
    obtain ⟨ps1, rfl, s3, e3, l3, b3⟩ := w trivial
    clear w
    have hs3 := same_lst s3 hs2
    refine ⟨fun σ' H' => Wall (∃ ps : List Int, σ' = [some (.ref l0), some (.ref pf), some (.ref pk), some (.ref pp), none, none, none, none, none] ∧ Same H2 H' ∧ H' pp = some (.lst (ps.map V.int)) ∧ ps.length ≤ 2 ∧ ∀ x ∈ ps, 0 ≤ x ∧ x < 23), ?_, ?_⟩
    · walk_at "rd"
      refine iteI (fun _ => ?_) (fun _ => ?_)
      · have hl : (ps1.map V.int).length < sizeLine := by rw [List.length_map, sizeLine_eq]; omega
        walk_at "rd"
        refine wall ⟨ps1 ++ [cell ns 3 % 23], rfl, same_set s3 np, by rw [upd_same, List.map_append]; rfl, by rw [List.length_append]; simp; omega, fun x hx => ?_⟩
        rcases List.mem_append.mp hx with hx | hx
        · exact b3 x hx
        · rw [List.mem_singleton.mp hx]; omega
      · exact wall ⟨ps1, rfl, s3, e3, by omega, b3⟩
    rintro σ H4 ⟨w⟩
    obtain ⟨ps, rfl, s4, e4, l4, b4⟩ := w trivial
    clear w s3 e3 l3 b3 hs3
    have hs4 := same_lst s4 hs2
    have x4 := x2.same s4
    have Lp4 := l_of (K := K) e4
    have Lk4 := l_of (K := K) (s4 _ _ e2)
    walk_at "rd"
    refine x4.get 1 rfl rfl ?_
    walk_at "rd"
    rename_i d4 nd4
    have s5 : Same H4 (upd H4 d4 (.tup [.str "value", .int t0.count])) := same_new (Same.refl _) nd4
    have D5 : Dct H4 (upd H4 d4 (.tup [.str "value", .int t0.count])) pf d4 t0 os [.str "value", .int t0.count] := ⟨Keep.of s5, x4.same s5, eL0, upd_same, rfl⟩
    have hs5 := same_lst s5 hs4
    have G5 : Good3 t0 [.str "value", .int t0.count] := by
      have h1 := gd.free2
      have h2 := gd.bounds
      have h3 := gd.late
      exact ⟨by unfold stA; omega, by unfold stB; omega, by unfold stC; exact fun z => by have := h3 z.1; omega, rfl⟩
    have a4 := x4.at_
    have cmb : ∀ z : Int, 0 ≤ z → z < 2000 → CM 28 z := fun z h0 h1 => CM.of (m := 64) (n := 64) ⟨by decide⟩ ⟨by omega⟩
    walk_at "rd"
    refine ⟨fun σ' H' => Wall (∃ (t : TM) (dd : Addr) (xs : List V), σ' = [some (.ref l0), some (.ref pf), some (.ref pk), some (.ref pp), some (.ref dd), some (.int (cell ns 1 / 4 % 5)), none, none, none] ∧ Dct H4 H' pf dd t os xs ∧ ((cell ns 1 / 4 % 5 = 1 ∧ Late3 t xs) ∨ (cell ns 1 / 4 % 5 ≠ 1 ∧ Good3 t xs))), ?_, ?_⟩
    · walk_at "rd"
      refine iteI (fun cb => ?_) (fun cb => ?_)
      · walk_at "rd"
        refine D5.x.set (i := 17) (t' := { t0 with lfee := 1 + cell ns 4 % 1000 }) rfl rfl rfl fun Ha ka xa => ?_
        have hsa := keep_l ka D5.x.at_ hs5
        walk_at "rd"
        refine xa.set (i := 2) (t' := { t0 with lfee := 1 + cell ns 4 % 1000, every := 1 + cell ns 4 % 3 }) rfl rfl rfl fun Hb kb xb => ?_
        have hsb := keep_l kb xa.at_ hsa
        walk_at "rd"
        refine xb.get 2 rfl rfl ?_
        have cm := cmb (1 + cell ns 4 % 3) (by omega) (by omega)
        walk_at "rd"
        refine xb.set (i := 18) (t' := { t0 with lfee := 1 + cell ns 4 % 1000, every := 1 + cell ns 4 % 3, grace := if 28 * (1 + cell ns 4 % 3) + cell ns 5 % 2 < 90 then 28 * (1 + cell ns 4 % 3) + cell ns 5 % 2 else 90 }) rfl rfl rfl fun Hc kc xc => ?_
        walk_at "rd"
        refine xc.get 17 rfl rfl ?_
        walk_at "rd"
        rename_i dd nd
        have hg : (if 28 * (1 + cell ns 4 % 3) + cell ns 5 % 2 < 90 then 28 * (1 + cell ns 4 % 3) + cell ns 5 % 2 else 90) = 28 * (1 + cell ns 4 % 3) + cell ns 5 % 2 := if_pos (by omega)
        have ev : isEveryT (1 + cell ns 4 % 3) = true := by
          have h : cell ns 4 % 3 = 0 ∨ cell ns 4 % 3 = 1 ∨ cell ns 4 % 3 = 2 := by omega
          rcases h with h | h | h <;> rw [h] <;> decide +kernel
        have eL : errL { t0 with lfee := 1 + cell ns 4 % 1000, every := 1 + cell ns 4 % 3, grace := if 28 * (1 + cell ns 4 % 3) + cell ns 5 % 2 < 90 then 28 * (1 + cell ns 4 % 3) + cell ns 5 % 2 else 90 } os = allN := by
          have e : errL { t0 with lfee := 1 + cell ns 4 % 1000, every := 1 + cell ns 4 % 3, grace := if 28 * (1 + cell ns 4 % 3) + cell ns 5 % 2 < 90 then 28 * (1 + cell ns 4 % 3) + cell ns 5 % 2 else 90 } os = (((errL t0 os).set 17 (btw (1 + cell ns 4 % 1000) 0 1000000000000 none)).set 2 (orE (isEveryT (1 + cell ns 4 % 3)) (.range (1 + cell ns 4 % 3)) none)).set 18 (btw (if 28 * (1 + cell ns 4 % 3) + cell ns 5 % 2 < 90 then 28 * (1 + cell ns 4 % 3) + cell ns 5 % 2 else 90) 0 90 none) := rfl
          rw [e, eL0, hg, btw_t (by omega) (by omega), btw_t (by omega) (by omega), orE_t ev]
          rfl
        refine wall ⟨_, dd, _, rfl, ⟨((D5.s.trans ka).trans (kb.trans kc)).trans (Keep.of (same_new (Same.refl _) nd)), xc.same (same_new (Same.refl _) nd), eL, upd_same, rfl⟩, .inl ⟨cb, ?_⟩⟩
        obtain ⟨g1, g2, _, _⟩ := G5
        exact ⟨g1, g2, ⟨show 0 < 1 + cell ns 4 % 1000 by omega, show 28 * (1 + cell ns 4 % 3) ≤ (if _ then _ else _) by rw [hg]; omega⟩, rfl⟩
      · exact wall ⟨t0, d4, _, rfl, D5, .inr ⟨cb, G5⟩⟩
    rintro σ H6 ⟨w⟩
    obtain ⟨t6, d6, xs6, rfl, D6, G6⟩ := w trivial
    clear w
    have hs6 := keep_l D6.s a4 hs4
    refine ⟨fun σ' H' => Wall (∃ (t : TM) (dd : Addr) (xs : List V), σ' = [some (.ref l0), some (.ref pf), some (.ref pk), some (.ref pp), some (.ref dd), some (.int (cell ns 1 / 4 % 5)), none, none, none] ∧ Dct H4 H' pf dd t os xs ∧ ((cell ns 1 / 4 % 5 = 1 ∧ Late3 t xs) ∨ (cell ns 1 / 4 % 5 = 2 ∧ Low3 t xs) ∨ (cell ns 1 / 4 % 5 ≠ 1 ∧ cell ns 1 / 4 % 5 ≠ 2 ∧ Good3 t xs))), ?_, ?_⟩
    · walk_at "rd"
      refine iteI (fun cb => ?_) (fun cb => ?_)
      · walk_at "rd"
        refine D6.x.set (i := 9) (t' := { t6 with highest := cell ns 4 % 1000000 }) rfl rfl rfl fun Ha ka xa => ?_
        walk_at "rd"
        refine xa.get 9 rfl rfl ?_
        walk_at "rd"
        refine xa.set (i := 8) (t' := { t6 with highest := cell ns 4 % 1000000, lowest := cell ns 4 % 1000000 + 1 }) rfl rfl rfl fun Hb kb xb => ?_
        walk_at "rd"
        refine xb.get 8 rfl rfl ?_
        walk_at "rd"
        rename_i dd nd
        have eL : errL { t6 with highest := cell ns 4 % 1000000, lowest := cell ns 4 % 1000000 + 1 } os = allN := by
          have e : errL { t6 with highest := cell ns 4 % 1000000, lowest := cell ns 4 % 1000000 + 1 } os = ((errL t6 os).set 9 (btw (cell ns 4 % 1000000) 0 1000000 none)).set 8 (btw (cell ns 4 % 1000000 + 1) 0 1000000 none) := rfl
          rw [e, D6.e, btw_t (by omega) (by omega), btw_t (by omega) (by omega)]
          rfl
        refine wall ⟨_, dd, _, rfl, ⟨(D6.s.trans (ka.trans kb)).trans (Keep.of (same_new (Same.refl _) nd)), xb.same (same_new (Same.refl _) nd), eL, upd_same, rfl⟩, .inr (.inl ⟨cb, ?_⟩)⟩
        rcases G6 with ⟨k, _⟩ | ⟨_, g1, _, _, _⟩
        · omega
        · exact ⟨g1, show cell ns 4 % 1000000 < cell ns 4 % 1000000 + 1 by omega, rfl⟩
      · refine wall ⟨t6, d6, xs6, rfl, D6, ?_⟩
        rcases G6 with h | ⟨h1, h2⟩
        · exact .inl h
        · exact .inr (.inr ⟨h1, cb, h2⟩)
    clear D5 G5 hs5 G6 D6 hs6
    rintro σ H7 ⟨w⟩
    obtain ⟨t7, d7, xs7, rfl, D7, G7⟩ := w trivial
    clear w
    have hs7 := keep_l D7.s a4 hs4
    refine ⟨fun σ' H' => Wall (∃ (t : TM) (dd : Addr) (xs : List V), σ' = [some (.ref l0), some (.ref pf), some (.ref pk), some (.ref pp), some (.ref dd), some (.int (cell ns 1 / 4 % 5)), none, none, none] ∧ Dct H4 H' pf dd t os xs ∧ ((cell ns 1 / 4 % 5 = 1 ∧ Late3 t xs) ∨ (cell ns 1 / 4 % 5 = 2 ∧ Low3 t xs) ∨ (cell ns 1 / 4 % 5 = 3 ∧ Free3 t xs) ∨ (cell ns 1 / 4 % 5 ≠ 1 ∧ cell ns 1 / 4 % 5 ≠ 2 ∧ cell ns 1 / 4 % 5 ≠ 3 ∧ Good3 t xs))), ?_, ?_⟩
    · walk_at "rd"
      refine iteI (fun cb => ?_) (fun cb => ?_)
      · walk_at "rd"
        refine D7.x.get 1 rfl rfl ?_
        walk_at "rd"
        refine D7.x.set (i := 1) (t' := { t7 with count := if t7.count < 479 then t7.count else 479 }) rfl rfl rfl fun Ha ka xa => ?_
        have hsa := keep_l ka D7.x.at_ hs7
        walk_at "rd"
        refine xa.get 1 rfl rfl ?_
        walk_at "rd"
        refine xa.set (i := 13) (t' := { t7 with count := if t7.count < 479 then t7.count else 479, free := if (if t7.count < 479 then t7.count else 479) + cell ns 4 % 5 < 479 then (if t7.count < 479 then t7.count else 479) + cell ns 4 % 5 else 479 }) rfl rfl rfl fun Hb kb xb => ?_
        walk_at "rd"
        refine xb.get 13 rfl rfl ?_
        walk_at "rd"
        rename_i dd nd
        have hc : 1 ≤ (if t7.count < 479 then t7.count else 479) ∧ (if t7.count < 479 then t7.count else 479) ≤ 479 := by
          have := cnt_of D7.e
          split <;> omega
        have hf : 0 ≤ (if (if t7.count < 479 then t7.count else 479) + cell ns 4 % 5 < 479 then (if t7.count < 479 then t7.count else 479) + cell ns 4 % 5 else 479) ∧ (if (if t7.count < 479 then t7.count else 479) + cell ns 4 % 5 < 479 then (if t7.count < 479 then t7.count else 479) + cell ns 4 % 5 else 479) ≤ 479 ∧ (if t7.count < 479 then t7.count else 479) ≤ (if (if t7.count < 479 then t7.count else 479) + cell ns 4 % 5 < 479 then (if t7.count < 479 then t7.count else 479) + cell ns 4 % 5 else 479) := by
          generalize (if t7.count < 479 then t7.count else 479) = m at hc
          split <;> omega
        have eL : errL { t7 with count := if t7.count < 479 then t7.count else 479, free := if (if t7.count < 479 then t7.count else 479) + cell ns 4 % 5 < 479 then (if t7.count < 479 then t7.count else 479) + cell ns 4 % 5 else 479 } os = allN := by
          have e : errL { t7 with count := if t7.count < 479 then t7.count else 479, free := if (if t7.count < 479 then t7.count else 479) + cell ns 4 % 5 < 479 then (if t7.count < 479 then t7.count else 479) + cell ns 4 % 5 else 479 } os = ((errL t7 os).set 1 (btw (if t7.count < 479 then t7.count else 479) 1 480 none)).set 13 (btw (if (if t7.count < 479 then t7.count else 479) + cell ns 4 % 5 < 479 then (if t7.count < 479 then t7.count else 479) + cell ns 4 % 5 else 479) 0 479 none) := rfl
          rw [e, D7.e, btw_t (v := if t7.count < 479 then t7.count else 479) (by omega) (by omega), btw_t (v := if (if t7.count < 479 then t7.count else 479) + cell ns 4 % 5 < 479 then (if t7.count < 479 then t7.count else 479) + cell ns 4 % 5 else 479) (by omega) (by omega)]
          rfl
        exact wall ⟨_, dd, _, rfl, ⟨(D7.s.trans (ka.trans kb)).trans (Keep.of (same_new (Same.refl _) nd)), xb.same (same_new (Same.refl _) nd), eL, upd_same, rfl⟩, .inr (.inr (.inl ⟨cb, hf.2.2, rfl⟩))⟩
      · refine wall ⟨t7, d7, xs7, rfl, D7, ?_⟩
        rcases G7 with h | h | ⟨h1, h2, h3⟩
        · exact .inl h
        · exact .inr (.inl h)
        · exact .inr (.inr (.inr ⟨h1, h2, cb, h3⟩))
    clear G7 D7 hs7
    rintro σ H8 ⟨w⟩
    obtain ⟨t8, d8, xs8, rfl, D8, G8⟩ := w trivial
    clear w
    have hs8 := keep_l D8.s a4 hs4
    refine ⟨fun σ' H' => Wall (∃ (t : TM) (dd : Addr) (xs : List V), σ' = [some (.ref l0), some (.ref pf), some (.ref pk), some (.ref pp), some (.ref dd), some (.int (cell ns 1 / 4 % 5)), none, none, none] ∧ Dct H4 H' pf dd t os xs ∧ ((cell ns 1 / 4 % 5 = 1 ∧ Late3 t xs) ∨ (cell ns 1 / 4 % 5 = 2 ∧ Low3 t xs) ∨ (cell ns 1 / 4 % 5 = 3 ∧ Free3 t xs) ∨ (cell ns 1 / 4 % 5 ≠ 1 ∧ cell ns 1 / 4 % 5 ≠ 2 ∧ cell ns 1 / 4 % 5 ≠ 3 ∧ Good3 t xs))), ?_, ?_⟩
    · walk_at "rd"
      refine iteI (fun ca => ?_) (fun ca => ?_)
      · walk_at "rd"
        refine iteI (fun cb => ?_) (fun cb => ?_)
        · walk_at "rd"
          refine D8.x.set (i := 9) (t' := { t8 with highest := 4 }) rfl rfl rfl fun Ha ka xa => ?_
          walk_at "rd"
          refine xa.set (i := 8) (t' := { t8 with highest := 4, lowest := 5 }) rfl rfl rfl fun Hb kb xb => ?_
          have eL : errL { t8 with highest := 4, lowest := 5 } os = allN := by
            have e : errL { t8 with highest := 4, lowest := 5 } os = ((errL t8 os).set 9 (btw 4 0 1000000 none)).set 8 (btw 5 0 1000000 none) := rfl
            rw [e, D8.e]
            rfl
          have nd8 : d8 ≠ pf := fun z => by have := D8.d; rw [z, D8.x.at_] at this; cases this
          refine wall ⟨_, d8, _, rfl, ⟨D8.s.trans (ka.trans kb), xb, eL, (ka.trans kb) _ _ nd8 D8.d, D8.f⟩, .inr (.inr (.inl ⟨cb, ?_⟩))⟩
          rcases G8 with ⟨k, _⟩ | ⟨k, _⟩ | ⟨_, h⟩ | ⟨_, _, k, _⟩
          · omega
          · omega
          · exact h
          · omega
        · exact wall ⟨t8, d8, xs8, rfl, D8, G8⟩
      · exact wall ⟨t8, d8, xs8, rfl, D8, G8⟩
    clear G8 D8 hs8
    rintro σ H9 ⟨w⟩
    obtain ⟨t9, d9, xs9, rfl, D9, G9⟩ := w trivial
    clear w
    have hs9 := keep_l D9.s a4 hs4
    refine ⟨fun σ' H' => Wall (∃ (t : TM) (dd : Addr) (xs : List V), σ' = [some (.ref l0), some (.ref pf), some (.ref pk), some (.ref pp), some (.ref dd), some (.int (cell ns 1 / 4 % 5)), none, none, none] ∧ Dct H4 H' pf dd t os xs ∧ ((cell ns 1 / 4 % 5 = 1 ∧ Late3 t xs) ∨ (cell ns 1 / 4 % 5 = 2 ∧ Low3 t xs) ∨ (cell ns 1 / 4 % 5 = 3 ∧ Free3 t xs) ∨ (cell ns 1 / 4 % 5 ≠ 1 ∧ cell ns 1 / 4 % 5 ≠ 2 ∧ cell ns 1 / 4 % 5 ≠ 3 ∧ Good3 t xs))), ?_, ?_⟩
    · walk_at "rd"
      refine iteI (fun ca => ?_) (fun ca => ?_)
      · walk_at "rd"
        refine iteI (fun cb => ?_) (fun cb => ?_)
        · walk_at "rd"
          refine D9.x.set (i := 17) (t' := { t9 with lfee := 7 }) rfl rfl rfl fun Ha ka xa => ?_
          walk_at "rd"
          refine xa.set (i := 2) (t' := { t9 with lfee := 7, every := 1 }) rfl rfl rfl fun Hb kb xb => ?_
          walk_at "rd"
          refine xb.set (i := 18) (t' := { t9 with lfee := 7, every := 1, grace := 28 }) rfl rfl rfl fun Hc kc xc => ?_
          have eL : errL { t9 with lfee := 7, every := 1, grace := 28 } os = allN := by
            have e : errL { t9 with lfee := 7, every := 1, grace := 28 } os = (((errL t9 os).set 17 (btw 7 0 1000000000000 none)).set 2 (orE (isEveryT 1) (.range 1) none)).set 18 (btw 28 0 90 none) := rfl
            rw [e, D9.e]
            rfl
          have nd9 : d9 ≠ pf := fun z => by have := D9.d; rw [z, D9.x.at_] at this; cases this
          refine wall ⟨_, d9, _, rfl, ⟨D9.s.trans ((ka.trans kb).trans kc), xc, eL, ((ka.trans kb).trans kc) _ _ nd9 D9.d, D9.f⟩, .inr (.inl ⟨cb, ?_⟩)⟩
          rcases G9 with ⟨k, _⟩ | ⟨_, h⟩ | ⟨k, _⟩ | ⟨_, k, _, _⟩
          · omega
          · exact h
          · omega
          · omega
        · exact wall ⟨t9, d9, xs9, rfl, D9, G9⟩
      · exact wall ⟨t9, d9, xs9, rfl, D9, G9⟩
    clear G9 D9 hs9
    rintro σ H10 ⟨w⟩
    obtain ⟨t, d, xs, rfl, D, G⟩ := w trivial
    clear w
    have hs10 := keep_l D.s a4 hs4
    have Lp := keep_l (K := K) D.s a4 Lp4
    have Lk := keep_l (K := K) D.s a4 Lk4
    have hx0 : xs = errTup t (togetherErr t) := by
      rcases G with ⟨_, h⟩ | ⟨_, h⟩ | ⟨_, h⟩ | ⟨_, _, _, h⟩
      · exact tog_late h
      · exact tog_low h
      · exact tog_free h
      · rw [(tog_good h).1]
        exact (tog_good h).2
    have hg0 : cell ns 1 / 4 % 5 = 0 → togetherErr t = none := by
      intro c
      rcases G with ⟨k, h⟩ | ⟨k, h⟩ | ⟨k, h⟩ | ⟨_, _, _, h⟩
      · omega
      · omega
      · omega
      · exact (tog_good h).1
    have lps : (((ps.map V.int).length : Nat) : Int) = (ps.length : Nat) := by rw [List.length_map]
    walk_at "rd"
    refine ⟨by omega, by omega, for_range (n := (ps.map V.int).length) (fun k σ H' => Wall (∃ (t' : TM) (os' : List Str) (dd : Addr) (xs' : List V) (u6 u7 : Option V), σ = [some (.ref l0), some (.ref pf), some (.ref pk), some (.ref pp), some (.ref dd), some (.int (cell ns 1 / 4 % 5)), u6, u7, none] ∧ Keep pf H10 H' ∧ TermX H' pf t' os' ∧ H' dd = some (.tup xs') ∧ xs'.all flatS = true ∧ (k = 0 → t' = t ∧ os' = os ∧ xs' = xs) ∧ (k ≠ 0 → SpI t' os' xs' ps k))) (wall ⟨t, os, d, xs, _, _, rfl, fun _ _ _ e => e, D.x, D.d, D.f, fun _ => ⟨rfl, rfl, rfl⟩, fun z => absurd rfl z⟩) ?_ ?_⟩
    · rintro k σ H' hk ⟨w⟩
      obtain ⟨t', os', dd, xs', u6, u7, rfl, kp, x, ed, fl, h0, h1⟩ := w trivial
      clear w
      rw [List.length_map] at hk
      have hs' := keep_l kp D.x.at_ hs10
      have Lp' := keep_l (K := K) kp D.x.at_ Lp
      have Lk' := keep_l (K := K) kp D.x.at_ Lk
      walk_at "rd"
      refine srtI_go Lp' fun S pS hp ha nS => ?_
      have hS : S.length = ps.length := hp.length_eq
      have hm : ps.length - 1 - k < S.length := by omega
      obtain ⟨j, hj⟩ : ∃ j : Nat, S[ps.length - 1 - k] = (j : Int) := ⟨(S[ps.length - 1 - k]).toNat, by have := b4 _ (hp.mem_iff.mp (List.getElem_mem hm)); omega⟩
      have hj2 : j < 23 := by have := b4 _ (hp.mem_iff.mp (List.getElem_mem hm)); omega
      have hj3 : S[ps.length - 1 - k]? = some ((j : Nat) : Int) := by rw [List.getElem?_eq_getElem hm, hj]
      obtain ⟨z, hz⟩ : ∃ z, keysL[j]? = some z := ⟨_, List.getElem?_eq_getElem (show j < keysL.length from hj2)⟩
      have sS : Same H' (upd H' pS (.lst (S.map V.int))) := same_new (Same.refl _) nS
      have xS := x.same sS
      have LpS := same_lst sS Lp'
      have LkS := same_lst sS Lk'
      have hsS := same_lst sS hs'
      have a1 : atI (S.map V.int) (((ps.map V.int).length : Nat) - 1 - (0 + (k : Int))) = some (.int (j : Nat)) := by
        rw [List.length_map, show ((ps.length : Nat) : Int) - 1 - (0 + (k : Int)) = ((ps.length - 1 - k : Nat) : Int) by omega]
        exact atI_nat (by rw [List.getElem?_map, hj3]; rfl)
      have a2 : atI (keysL.map V.str) ((j : Nat) : Int) = some (.str z) := atI_nat (by rw [List.getElem?_map, hz]; rfl)
      walk_at "rd"
      dsimp only [tNil, tCons, tVar]
      refine cell_at (6 + k) hsS hn (by omega) (by omega) ?_
      refine _law_spoilt_go hz ((cell_sz hb _).mono (by decide)) fun v e Ha sa he hsp => ?_
      have xa := xS.same sa
      walk_at "rd"
      refine TermX.spoil xa hz hsp fun Hb t2 os2 kb xb hv2 he2 => ?_
      have hvj : t2.vals[j]? = some v := by
        rw [hv2, List.getElem?_set_self (show j < t'.vals.length from hj2)]
      walk_at "rd"
      refine xb.get j hz hvj ?_
      dsimp only [tNil, tCons, tVar]
      refine _law_error_go hz he fun pe Hc sc ec => ?_
      walk_at "rd"
      have kc : Keep pf H' Hc := ((Keep.of sS).trans (Keep.of sa)).trans (kb.trans (Keep.of sc))
      refine wall ⟨t2, os2, pe, errV e, _, _, rfl, kp.trans kc, xb.same sc, ec, errV_flat he, fun z => absurd z (by omega), fun _ => ?_⟩
      exact spI_next hk hp ha hj3 hj2 (fun z => by obtain ⟨rfl, rfl, _⟩ := h0 z; exact D.e) h1 he2
    rintro σ H11 ⟨w⟩
    obtain ⟨t', os', dd, xs', u6, u7, rfl, kp, x, ed, fl, h0, h1⟩ := w trivial
    clear w
    rw [List.length_map] at h0 h1
    have Lp' := keep_l (K := K) kp D.x.at_ Lp
    have dd1 : ps.length = 0 → xs' = errTup t' (togetherErr t') ∧ termErr t' os' = togetherErr t' ∧ (cell ns 1 / 4 % 5 = 0 → togetherErr t' = none) := by
      intro z
      obtain ⟨rfl, rfl, rfl⟩ := h0 z
      refine ⟨hx0, ?_, hg0⟩
      rw [termErr_first, D.e]
      rfl
    have dd2 : xs' = errTup t' (termErr t' os') := by
      by_cases z : ps.length = 0
      · rw [(dd1 z).2.1]
        exact (dd1 z).1
      · exact spI_err (h1 z)
    walk_at "rd"
    refine ⟨fun σ' H' => Wall (∃ (dd : Addr) (xs : List V), σ' = [some (.ref l0), some (.ref pf), some (.ref pk), some (.ref pp), some (.ref dd), some (.int (cell ns 1 / 4 % 5)), u6, u7, none] ∧ TermX H' pf t' os' ∧ H' dd = some (.tup xs) ∧ xs.all flatS = true ∧ xs = errTup t' (termErr t' os')), ?_, ?_⟩
    · walk_at "rd"
      refine iteI (fun ca => ?_) (fun ca => ?_)
      · walk_at "rd"
        refine iteI (fun cb => ?_) (fun cb => ?_)
        · walk_at "rd"
          refine x.get 1 rfl rfl ?_
          walk_at "rd"
          rename_i d2 nd2
          have z : ps.length = 0 := by rw [List.length_map] at cb; omega
          refine wall ⟨d2, _, rfl, x.same (same_new (Same.refl _) nd2), upd_same, rfl, ?_⟩
          rw [(dd1 z).2.1, (dd1 z).2.2 ca]
          rfl
        · exact wall ⟨dd, xs', rfl, x, ed, fl, dd2⟩
      · exact wall ⟨dd, xs', rfl, x, ed, fl, dd2⟩
    clear dd1 dd2 h0 h1 ed fl Lp' x kp
    rintro σ H12 ⟨w⟩
    obtain ⟨d2, xs2, rfl, x, ed, fl, ex⟩ := w trivial
    clear w
    walk_at "rd"
    refine _law_told_go T x fun p3 H13 s13 e13 => ?_
    have T3 := t_of (K := K) e13
    have T2 := t_of (K := K) (s13 _ _ ed)
    rw [← ex] at T3
    cases ec : termErr t' os' with
    | none =>
      rw [ec] at ex
      subst ex
      dsimp only [errTup] at *
      walk_at "rd"
      refine eqD_TT T3 T2 rfl fl ?_
      walk_at "rd"
      exact q _
    | some e =>
      rw [ec] at ex
      cases e with
      | bad z =>
        subst ex
        dsimp only [errTup] at *
        walk_at "rd"
        refine eqD_TT T3 T2 rfl fl ?_
        walk_at "rd"
        exact q _
      | name z =>
        subst ex
        dsimp only [errTup] at *
        walk_at "rd"
        refine eqD_TT T3 T2 rfl fl ?_
        walk_at "rd"
        exact q _
      | range z =>
        subst ex
        dsimp only [errTup] at *
        walk_at "rd"
        refine eqD_TT T3 T2 rfl fl ?_
        walk_at "rd"
        exact q _

end
theorem all_mk {w : World} {K : PySem.W.Frag} {h : Heap} {mg : Str → Option Value} {fa : Addr} (X : K.In h) (G : h.Ns mainGlobals mg) (hfa : mg "law" = some (.ref fa))
    {f__wall : Addr} {oc__wall kV__wall dc__wall pm__wall cd__wall ct__wall : Value} {od__wall an__wall : Option Addr} {sl__wall : Array (Option Value)}
    {f_check_between : Addr} {oc_check_between kV_check_between dc_check_between pm_check_between cd_check_between ct_check_between : Value} {od_check_between an_check_between : Option Addr} {sl_check_between : Array (Option Value)}
    {f_is_lower : Addr} {oc_is_lower kV_is_lower dc_is_lower pm_is_lower cd_is_lower ct_is_lower : Value} {od_is_lower an_is_lower : Option Addr} {sl_is_lower : Array (Option Value)}
    {f_is_digit : Addr} {oc_is_digit kV_is_digit dc_is_digit pm_is_digit cd_is_digit ct_is_digit : Value} {od_is_digit an_is_digit : Option Addr} {sl_is_digit : Array (Option Value)}
    {f_is_name : Addr} {oc_is_name kV_is_name dc_is_name pm_is_name cd_is_name ct_is_name : Value} {od_is_name an_is_name : Option Addr} {sl_is_name : Array (Option Value)}
    {f_check_name : Addr} {oc_check_name kV_check_name dc_check_name pm_check_name cd_check_name ct_check_name : Value} {od_check_name an_check_name : Option Addr} {sl_check_name : Array (Option Value)}
    {f_check_convention : Addr} {oc_check_convention kV_check_convention dc_check_convention pm_check_convention cd_check_convention ct_check_convention : Value} {od_check_convention an_check_convention : Option Addr} {sl_check_convention : Array (Option Value)}
    {f_Terms___init__ D_Terms___init__ qk_Terms___init__ : Addr} {oc_Terms___init__ dc_Terms___init__ pm_Terms___init__ cd_Terms___init__ ct_Terms___init__ : Value} {od_Terms___init__ an_Terms___init__ odk_Terms___init__ : Option Addr} {sl_Terms___init__ slk_Terms___init__ : Array (Option Value)} {itk_Terms___init__ : Array Value} {nk_Terms___init__ : Nat}
    {tkd_Terms___init___every : Tok}
    {tkd_Terms___init___due_on : Tok}
    {tkd_Terms___init___calendar : Tok}
    {tkd_Terms___init___rule : Tok}
    {tkd_Terms___init___index : Tok}
    {tkd_Terms___init___rate : Tok}
    {tkd_Terms___init___lowest : Tok}
    {tkd_Terms___init___highest : Tok}
    {tkd_Terms___init___convention : Tok}
    {tkd_Terms___init___mode : Tok}
    {tkd_Terms___init___scheme : Tok}
    {tkd_Terms___init___free : Tok}
    {tkd_Terms___init___opening_fee : Tok}
    {tkd_Terms___init___opening_part : Tok}
    {tkd_Terms___init___period_fee : Tok}
    {tkd_Terms___init___late_fee : Tok}
    {tkd_Terms___init___grace : Tok}
    {tkd_Terms___init___early_part : Tok}
    {tkd_Terms___init___early_months : Tok}
    {tkd_Terms___init___penalty : Tok}
    {f_Terms_parts : Addr} {oc_Terms_parts kV_Terms_parts dc_Terms_parts pm_Terms_parts cd_Terms_parts ct_Terms_parts : Value} {od_Terms_parts an_Terms_parts : Option Addr} {sl_Terms_parts : Array (Option Value)}
    {f_Terms_copy_of : Addr} {oc_Terms_copy_of kV_Terms_copy_of dc_Terms_copy_of pm_Terms_copy_of cd_Terms_copy_of ct_Terms_copy_of : Value} {od_Terms_copy_of an_Terms_copy_of : Option Addr} {sl_Terms_copy_of : Array (Option Value)}
    {f_Terms_same_as : Addr} {oc_Terms_same_as kV_Terms_same_as dc_Terms_same_as pm_Terms_same_as cd_Terms_same_as ct_Terms_same_as : Value} {od_Terms_same_as an_Terms_same_as : Option Addr} {sl_Terms_same_as : Array (Option Value)}
    {f_check_word : Addr} {oc_check_word kV_check_word dc_check_word pm_check_word cd_check_word ct_check_word : Value} {od_check_word an_check_word : Option Addr} {sl_check_word : Array (Option Value)}
    {f_check_terms : Addr} {oc_check_terms kV_check_terms dc_check_terms pm_check_terms cd_check_terms ct_check_terms : Value} {od_check_terms an_check_terms : Option Addr} {sl_check_terms : Array (Option Value)}
    {f_check_charges : Addr} {oc_check_charges kV_check_charges dc_check_charges pm_check_charges cd_check_charges ct_check_charges : Value} {od_check_charges an_check_charges : Option Addr} {sl_check_charges : Array (Option Value)}
    {f_check_together : Addr} {oc_check_together kV_check_together dc_check_together pm_check_together cd_check_together ct_check_together : Value} {od_check_together an_check_together : Option Addr} {sl_check_together : Array (Option Value)}
    {f_is_late_too_long : Addr} {oc_is_late_too_long kV_is_late_too_long dc_is_late_too_long pm_is_late_too_long cd_is_late_too_long ct_is_late_too_long : Value} {od_is_late_too_long an_is_late_too_long : Option Addr} {sl_is_late_too_long : Array (Option Value)}
    {f__law_cell : Addr} {oc__law_cell kV__law_cell dc__law_cell pm__law_cell cd__law_cell ct__law_cell : Value} {od__law_cell an__law_cell : Option Addr} {sl__law_cell : Array (Option Value)}
    {f__law_draw : Addr} {oc__law_draw kV__law_draw dc__law_draw pm__law_draw cd__law_draw ct__law_draw : Value} {od__law_draw an__law_draw : Option Addr} {sl__law_draw : Array (Option Value)}
    {f__law_whole : Addr} {oc__law_whole kV__law_whole dc__law_whole pm__law_whole cd__law_whole ct__law_whole : Value} {od__law_whole an__law_whole : Option Addr} {sl__law_whole : Array (Option Value)}
    {f__law_fields : Addr} {oc__law_fields kV__law_fields dc__law_fields pm__law_fields cd__law_fields ct__law_fields : Value} {od__law_fields an__law_fields : Option Addr} {sl__law_fields : Array (Option Value)}
    {f__law_order : Addr} {oc__law_order kV__law_order dc__law_order pm__law_order cd__law_order ct__law_order : Value} {od__law_order an__law_order : Option Addr} {sl__law_order : Array (Option Value)}
    {f__law_keys : Addr} {oc__law_keys kV__law_keys dc__law_keys pm__law_keys cd__law_keys ct__law_keys : Value} {od__law_keys an__law_keys : Option Addr} {sl__law_keys : Array (Option Value)}
    {f__law_terms : Addr} {oc__law_terms kV__law_terms dc__law_terms pm__law_terms cd__law_terms ct__law_terms : Value} {od__law_terms an__law_terms : Option Addr} {sl__law_terms : Array (Option Value)}
    {f__law_told : Addr} {oc__law_told kV__law_told dc__law_told pm__law_told cd__law_told ct__law_told : Value} {od__law_told an__law_told : Option Addr} {sl__law_told : Array (Option Value)}
    {f__law_spoilt : Addr} {oc__law_spoilt kV__law_spoilt dc__law_spoilt pm__law_spoilt cd__law_spoilt ct__law_spoilt : Value} {od__law_spoilt an__law_spoilt : Option Addr} {sl__law_spoilt : Array (Option Value)}
    {f__law_error : Addr} {oc__law_error kV__law_error dc__law_error pm__law_error cd__law_error ct__law_error : Value} {od__law_error an__law_error : Option Addr} {sl__law_error : Array (Option Value)}
    {f_law : Addr} {oc_law kV_law dc_law pm_law cd_law ct_law : Value} {od_law an_law : Option Addr} {sl_law : Array (Option Value)}
    {c_Terms : Addr}
    {c_BookError : Addr}
    {c_OutOfRange : Addr}
    {fI_OutOfRange cc_OutOfRange cda_OutOfRange N_OutOfRange : Addr} {oc_OutOfRange doc_OutOfRange pm_OutOfRange ct_OutOfRange cl_OutOfRange ccl_OutOfRange : Value} {od_OutOfRange dd_OutOfRange cld_OutOfRange cdd_OutOfRange : Option Addr} {osl_OutOfRange csl_OutOfRange ccs_OutOfRange : Array (Option Value)} {nm_OutOfRange q_OutOfRange file_OutOfRange : Str} {bs_OutOfRange sub_OutOfRange : List Value} {sn_OutOfRange : List Str} {ab_OutOfRange : Bool} {col_OutOfRange : Option Bool} {m0_OutOfRange m1_OutOfRange m2_OutOfRange m3_OutOfRange m5_OutOfRange : Option Value} {vs_OutOfRange : Array Value} {tf_OutOfRange : Tok}
    {c_UnknownName : Addr}
    {fI_UnknownName cc_UnknownName cda_UnknownName N_UnknownName : Addr} {oc_UnknownName doc_UnknownName pm_UnknownName ct_UnknownName cl_UnknownName ccl_UnknownName : Value} {od_UnknownName dd_UnknownName cld_UnknownName cdd_UnknownName : Option Addr} {osl_UnknownName csl_UnknownName ccs_UnknownName : Array (Option Value)} {nm_UnknownName q_UnknownName file_UnknownName : Str} {bs_UnknownName sub_UnknownName : List Value} {sn_UnknownName : List Str} {ab_UnknownName : Bool} {col_UnknownName : Option Bool} {m0_UnknownName m1_UnknownName m2_UnknownName m3_UnknownName m5_UnknownName : Option Value} {vs_UnknownName : Array Value} {tf_UnknownName : Tok}
    {c_BadName : Addr}
    {fI_BadName cc_BadName cda_BadName N_BadName : Addr} {oc_BadName doc_BadName pm_BadName ct_BadName cl_BadName ccl_BadName : Value} {od_BadName dd_BadName cld_BadName cdd_BadName : Option Addr} {osl_BadName csl_BadName ccs_BadName : Array (Option Value)} {nm_BadName q_BadName file_BadName : Str} {bs_BadName sub_BadName : List Value} {sn_BadName : List Str} {ab_BadName : Bool} {col_BadName : Option Bool} {m0_BadName m1_BadName m2_BadName m3_BadName m5_BadName : Option Value} {vs_BadName : Array Value} {tf_BadName : Tok}
    {tk_MOST_CENTS : Tok}
    {tk_MOST_RATE : Tok}
    {tk_NAME_LENGTH : Tok}
    {q_RULES : Addr} {od_RULES : Option Addr} {nn_RULES : Nat} {sl_RULES : Array (Option Value)}
    {its_RULES : Array Value}
    {q_PARTS : Addr} {es_PARTS : Array DictEntry} {nn_PARTS : Nat}
    {q_MODES : Addr} {od_MODES : Option Addr} {nn_MODES : Nat} {sl_MODES : Array (Option Value)}
    {its_MODES : Array Value}
    {q_SCHEMES : Addr} {od_SCHEMES : Option Addr} {nn_SCHEMES : Nat} {sl_SCHEMES : Array (Option Value)}
    {its_SCHEMES : Array Value}
    {q_EVERY : Addr} {od_EVERY : Option Addr} {nn_EVERY : Nat} {sl_EVERY : Array (Option Value)}
    {its_EVERY : Array Value}
    {q_USUAL_ORDER : Addr} {od_USUAL_ORDER : Option Addr} {nn_USUAL_ORDER : Nat} {sl_USUAL_ORDER : Array (Option Value)}
    {its_USUAL_ORDER : Array Value}
    {tk_SHORTEST_MONTH : Tok}
    {tk_MOST_COUNT : Tok}
    {tk_MOST_FREE : Tok}
    {tk_MOST_GRACE : Tok}
    {tk_MOST_PART : Tok}
    (a__wall : PySem.W.nsIn K mainGlobals "_wall" = some (some (.ref f__wall)))
    (l__wall : K.lookup f__wall = some ⟨oc__wall, od__wall, .func (PySem.W.fnOf "_wall" "_wall" (defArgs s__wall) (defBody s__wall) (defScope s__wall) .none kV__wall dc__wall pm__wall an__wall cd__wall ct__wall), sl__wall⟩)
    (c__wall : PySem.W.codeIn K cd__wall "_wall" = true)
    (k__wall : PySem.W.keepIn K (.ref f__wall) = true)
    (a_check_between : PySem.W.nsIn K mainGlobals "check_between" = some (some (.ref f_check_between)))
    (l_check_between : K.lookup f_check_between = some ⟨oc_check_between, od_check_between, .func (PySem.W.fnOf "check_between" "check_between" (defArgs s_check_between) (defBody s_check_between) (defScope s_check_between) .none kV_check_between dc_check_between pm_check_between an_check_between cd_check_between ct_check_between), sl_check_between⟩)
    (c_check_between : PySem.W.codeIn K cd_check_between "check_between" = true)
    (k_check_between : PySem.W.keepIn K (.ref f_check_between) = true)
    (a_is_lower : PySem.W.nsIn K mainGlobals "is_lower" = some (some (.ref f_is_lower)))
    (l_is_lower : K.lookup f_is_lower = some ⟨oc_is_lower, od_is_lower, .func (PySem.W.fnOf "is_lower" "is_lower" (defArgs s_is_lower) (defBody s_is_lower) (defScope s_is_lower) .none kV_is_lower dc_is_lower pm_is_lower an_is_lower cd_is_lower ct_is_lower), sl_is_lower⟩)
    (c_is_lower : PySem.W.codeIn K cd_is_lower "is_lower" = true)
    (k_is_lower : PySem.W.keepIn K (.ref f_is_lower) = true)
    (a_is_digit : PySem.W.nsIn K mainGlobals "is_digit" = some (some (.ref f_is_digit)))
    (l_is_digit : K.lookup f_is_digit = some ⟨oc_is_digit, od_is_digit, .func (PySem.W.fnOf "is_digit" "is_digit" (defArgs s_is_digit) (defBody s_is_digit) (defScope s_is_digit) .none kV_is_digit dc_is_digit pm_is_digit an_is_digit cd_is_digit ct_is_digit), sl_is_digit⟩)
    (c_is_digit : PySem.W.codeIn K cd_is_digit "is_digit" = true)
    (k_is_digit : PySem.W.keepIn K (.ref f_is_digit) = true)
    (a_is_name : PySem.W.nsIn K mainGlobals "is_name" = some (some (.ref f_is_name)))
    (l_is_name : K.lookup f_is_name = some ⟨oc_is_name, od_is_name, .func (PySem.W.fnOf "is_name" "is_name" (defArgs s_is_name) (defBody s_is_name) (defScope s_is_name) .none kV_is_name dc_is_name pm_is_name an_is_name cd_is_name ct_is_name), sl_is_name⟩)
    (c_is_name : PySem.W.codeIn K cd_is_name "is_name" = true)
    (k_is_name : PySem.W.keepIn K (.ref f_is_name) = true)
    (a_check_name : PySem.W.nsIn K mainGlobals "check_name" = some (some (.ref f_check_name)))
    (l_check_name : K.lookup f_check_name = some ⟨oc_check_name, od_check_name, .func (PySem.W.fnOf "check_name" "check_name" (defArgs s_check_name) (defBody s_check_name) (defScope s_check_name) .none kV_check_name dc_check_name pm_check_name an_check_name cd_check_name ct_check_name), sl_check_name⟩)
    (c_check_name : PySem.W.codeIn K cd_check_name "check_name" = true)
    (k_check_name : PySem.W.keepIn K (.ref f_check_name) = true)
    (a_check_convention : PySem.W.nsIn K mainGlobals "check_convention" = some (some (.ref f_check_convention)))
    (l_check_convention : K.lookup f_check_convention = some ⟨oc_check_convention, od_check_convention, .func (PySem.W.fnOf "check_convention" "check_convention" (defArgs s_check_convention) (defBody s_check_convention) (defScope s_check_convention) .none kV_check_convention dc_check_convention pm_check_convention an_check_convention cd_check_convention ct_check_convention), sl_check_convention⟩)
    (c_check_convention : PySem.W.codeIn K cd_check_convention "check_convention" = true)
    (k_check_convention : PySem.W.keepIn K (.ref f_check_convention) = true)
    (a_Terms___init__ : PySem.W.findIn K (.ref c_Terms) "__init__" = some (some (.ref f_Terms___init__)))
    (l_Terms___init__ : K.lookup f_Terms___init__ = some ⟨oc_Terms___init__, od_Terms___init__, .func (PySem.W.fnOf "__init__" "Terms.__init__" (defArgs s_Terms___init__) (defBody s_Terms___init__) (defScope s_Terms___init__) .none (.ref D_Terms___init__) dc_Terms___init__ pm_Terms___init__ an_Terms___init__ cd_Terms___init__ ct_Terms___init__), sl_Terms___init__⟩)
    (c_Terms___init__ : PySem.W.codeIn K cd_Terms___init__ "Terms.__init__" = true)
    (k_Terms___init__ : PySem.W.keepIn K (.ref f_Terms___init__) = true)
    (kd_Terms___init___every : PySem.W.nsIn K D_Terms___init__ "every" = some (some (.int 1 tkd_Terms___init___every)))
    (kd_Terms___init___due_on : PySem.W.nsIn K D_Terms___init__ "due_on" = some (some (.int 1 tkd_Terms___init___due_on)))
    (kd_Terms___init___calendar : PySem.W.nsIn K D_Terms___init__ "calendar" = some (some (.str "" tkd_Terms___init___calendar)))
    (kd_Terms___init___rule : PySem.W.nsIn K D_Terms___init__ "rule" = some (some (.str "none" tkd_Terms___init___rule)))
    (kd_Terms___init___index : PySem.W.nsIn K D_Terms___init__ "index" = some (some (.str "" tkd_Terms___init___index)))
    (kd_Terms___init___rate : PySem.W.nsIn K D_Terms___init__ "rate" = some (some (.int 0 tkd_Terms___init___rate)))
    (kd_Terms___init___lowest : PySem.W.nsIn K D_Terms___init__ "lowest" = some (some (.int 0 tkd_Terms___init___lowest)))
    (kd_Terms___init___highest : PySem.W.nsIn K D_Terms___init__ "highest" = some (some (.int 1000000 tkd_Terms___init___highest)))
    (kd_Terms___init___convention : PySem.W.nsIn K D_Terms___init__ "convention" = some (some (.str "actual/365" tkd_Terms___init___convention)))
    (kd_Terms___init___mode : PySem.W.nsIn K D_Terms___init__ "mode" = some (some (.str "near" tkd_Terms___init___mode)))
    (kd_Terms___init___scheme : PySem.W.nsIn K D_Terms___init__ "scheme" = some (some (.str "annuity" tkd_Terms___init___scheme)))
    (kd_Terms___init___free : PySem.W.nsIn K D_Terms___init__ "free" = some (some (.int 0 tkd_Terms___init___free)))
    (kd_Terms___init___opening_fee : PySem.W.nsIn K D_Terms___init__ "opening_fee" = some (some (.int 0 tkd_Terms___init___opening_fee)))
    (kd_Terms___init___opening_part : PySem.W.nsIn K D_Terms___init__ "opening_part" = some (some (.int 0 tkd_Terms___init___opening_part)))
    (kd_Terms___init___period_fee : PySem.W.nsIn K D_Terms___init__ "period_fee" = some (some (.int 0 tkd_Terms___init___period_fee)))
    (kd_Terms___init___late_fee : PySem.W.nsIn K D_Terms___init__ "late_fee" = some (some (.int 0 tkd_Terms___init___late_fee)))
    (kd_Terms___init___grace : PySem.W.nsIn K D_Terms___init__ "grace" = some (some (.int 5 tkd_Terms___init___grace)))
    (kd_Terms___init___early_part : PySem.W.nsIn K D_Terms___init__ "early_part" = some (some (.int 0 tkd_Terms___init___early_part)))
    (kd_Terms___init___early_months : PySem.W.nsIn K D_Terms___init__ "early_months" = some (some (.int 0 tkd_Terms___init___early_months)))
    (kd_Terms___init___order : PySem.W.nsIn K D_Terms___init__ "order" = some (some (.ref qk_Terms___init__)))
    (kd_Terms___init___penalty : PySem.W.nsIn K D_Terms___init__ "penalty" = some (some (.int 0 tkd_Terms___init___penalty)))
    (lk_Terms___init__ : K.lookup qk_Terms___init__ = some ⟨.type "tuple", odk_Terms___init__, .seq itk_Terms___init__ nk_Terms___init__, slk_Terms___init__⟩)
    (uk_Terms___init__ : valsB [.str "fees", .str "interest", .str "principal"] itk_Terms___init__.toList = true)
    (i_Terms___init__ : PySem.W.isFn K (.ref f_Terms___init__) = true)
    (a_Terms_parts : PySem.W.findIn K (.ref c_Terms) "parts" = some (some (.ref f_Terms_parts)))
    (l_Terms_parts : K.lookup f_Terms_parts = some ⟨oc_Terms_parts, od_Terms_parts, .func (PySem.W.fnOf "parts" "Terms.parts" (defArgs s_Terms_parts) (defBody s_Terms_parts) (defScope s_Terms_parts) .none kV_Terms_parts dc_Terms_parts pm_Terms_parts an_Terms_parts cd_Terms_parts ct_Terms_parts), sl_Terms_parts⟩)
    (c_Terms_parts : PySem.W.codeIn K cd_Terms_parts "Terms.parts" = true)
    (k_Terms_parts : PySem.W.keepIn K (.ref f_Terms_parts) = true)
    (i_Terms_parts : PySem.W.isFn K (.ref f_Terms_parts) = true)
    (a_Terms_copy_of : PySem.W.findIn K (.ref c_Terms) "copy_of" = some (some (.ref f_Terms_copy_of)))
    (l_Terms_copy_of : K.lookup f_Terms_copy_of = some ⟨oc_Terms_copy_of, od_Terms_copy_of, .func (PySem.W.fnOf "copy_of" "Terms.copy_of" (defArgs s_Terms_copy_of) (defBody s_Terms_copy_of) (defScope s_Terms_copy_of) .none kV_Terms_copy_of dc_Terms_copy_of pm_Terms_copy_of an_Terms_copy_of cd_Terms_copy_of ct_Terms_copy_of), sl_Terms_copy_of⟩)
    (c_Terms_copy_of : PySem.W.codeIn K cd_Terms_copy_of "Terms.copy_of" = true)
    (k_Terms_copy_of : PySem.W.keepIn K (.ref f_Terms_copy_of) = true)
    (i_Terms_copy_of : PySem.W.isFn K (.ref f_Terms_copy_of) = true)
    (a_Terms_same_as : PySem.W.findIn K (.ref c_Terms) "same_as" = some (some (.ref f_Terms_same_as)))
    (l_Terms_same_as : K.lookup f_Terms_same_as = some ⟨oc_Terms_same_as, od_Terms_same_as, .func (PySem.W.fnOf "same_as" "Terms.same_as" (defArgs s_Terms_same_as) (defBody s_Terms_same_as) (defScope s_Terms_same_as) .none kV_Terms_same_as dc_Terms_same_as pm_Terms_same_as an_Terms_same_as cd_Terms_same_as ct_Terms_same_as), sl_Terms_same_as⟩)
    (c_Terms_same_as : PySem.W.codeIn K cd_Terms_same_as "Terms.same_as" = true)
    (k_Terms_same_as : PySem.W.keepIn K (.ref f_Terms_same_as) = true)
    (i_Terms_same_as : PySem.W.isFn K (.ref f_Terms_same_as) = true)
    (a_check_word : PySem.W.nsIn K mainGlobals "check_word" = some (some (.ref f_check_word)))
    (l_check_word : K.lookup f_check_word = some ⟨oc_check_word, od_check_word, .func (PySem.W.fnOf "check_word" "check_word" (defArgs s_check_word) (defBody s_check_word) (defScope s_check_word) .none kV_check_word dc_check_word pm_check_word an_check_word cd_check_word ct_check_word), sl_check_word⟩)
    (c_check_word : PySem.W.codeIn K cd_check_word "check_word" = true)
    (k_check_word : PySem.W.keepIn K (.ref f_check_word) = true)
    (a_check_terms : PySem.W.nsIn K mainGlobals "check_terms" = some (some (.ref f_check_terms)))
    (l_check_terms : K.lookup f_check_terms = some ⟨oc_check_terms, od_check_terms, .func (PySem.W.fnOf "check_terms" "check_terms" (defArgs s_check_terms) (defBody s_check_terms) (defScope s_check_terms) .none kV_check_terms dc_check_terms pm_check_terms an_check_terms cd_check_terms ct_check_terms), sl_check_terms⟩)
    (c_check_terms : PySem.W.codeIn K cd_check_terms "check_terms" = true)
    (k_check_terms : PySem.W.keepIn K (.ref f_check_terms) = true)
    (a_check_charges : PySem.W.nsIn K mainGlobals "check_charges" = some (some (.ref f_check_charges)))
    (l_check_charges : K.lookup f_check_charges = some ⟨oc_check_charges, od_check_charges, .func (PySem.W.fnOf "check_charges" "check_charges" (defArgs s_check_charges) (defBody s_check_charges) (defScope s_check_charges) .none kV_check_charges dc_check_charges pm_check_charges an_check_charges cd_check_charges ct_check_charges), sl_check_charges⟩)
    (c_check_charges : PySem.W.codeIn K cd_check_charges "check_charges" = true)
    (k_check_charges : PySem.W.keepIn K (.ref f_check_charges) = true)
    (a_check_together : PySem.W.nsIn K mainGlobals "check_together" = some (some (.ref f_check_together)))
    (l_check_together : K.lookup f_check_together = some ⟨oc_check_together, od_check_together, .func (PySem.W.fnOf "check_together" "check_together" (defArgs s_check_together) (defBody s_check_together) (defScope s_check_together) .none kV_check_together dc_check_together pm_check_together an_check_together cd_check_together ct_check_together), sl_check_together⟩)
    (c_check_together : PySem.W.codeIn K cd_check_together "check_together" = true)
    (k_check_together : PySem.W.keepIn K (.ref f_check_together) = true)
    (a_is_late_too_long : PySem.W.nsIn K mainGlobals "is_late_too_long" = some (some (.ref f_is_late_too_long)))
    (l_is_late_too_long : K.lookup f_is_late_too_long = some ⟨oc_is_late_too_long, od_is_late_too_long, .func (PySem.W.fnOf "is_late_too_long" "is_late_too_long" (defArgs s_is_late_too_long) (defBody s_is_late_too_long) (defScope s_is_late_too_long) .none kV_is_late_too_long dc_is_late_too_long pm_is_late_too_long an_is_late_too_long cd_is_late_too_long ct_is_late_too_long), sl_is_late_too_long⟩)
    (c_is_late_too_long : PySem.W.codeIn K cd_is_late_too_long "is_late_too_long" = true)
    (k_is_late_too_long : PySem.W.keepIn K (.ref f_is_late_too_long) = true)
    (a__law_cell : PySem.W.nsIn K mainGlobals "_law_cell" = some (some (.ref f__law_cell)))
    (l__law_cell : K.lookup f__law_cell = some ⟨oc__law_cell, od__law_cell, .func (PySem.W.fnOf "_law_cell" "_law_cell" (defArgs s__law_cell) (defBody s__law_cell) (defScope s__law_cell) .none kV__law_cell dc__law_cell pm__law_cell an__law_cell cd__law_cell ct__law_cell), sl__law_cell⟩)
    (c__law_cell : PySem.W.codeIn K cd__law_cell "_law_cell" = true)
    (k__law_cell : PySem.W.keepIn K (.ref f__law_cell) = true)
    (a__law_draw : PySem.W.nsIn K mainGlobals "_law_draw" = some (some (.ref f__law_draw)))
    (l__law_draw : K.lookup f__law_draw = some ⟨oc__law_draw, od__law_draw, .func (PySem.W.fnOf "_law_draw" "_law_draw" (defArgs s__law_draw) (defBody s__law_draw) (defScope s__law_draw) .none kV__law_draw dc__law_draw pm__law_draw an__law_draw cd__law_draw ct__law_draw), sl__law_draw⟩)
    (c__law_draw : PySem.W.codeIn K cd__law_draw "_law_draw" = true)
    (k__law_draw : PySem.W.keepIn K (.ref f__law_draw) = true)
    (a__law_whole : PySem.W.nsIn K mainGlobals "_law_whole" = some (some (.ref f__law_whole)))
    (l__law_whole : K.lookup f__law_whole = some ⟨oc__law_whole, od__law_whole, .func (PySem.W.fnOf "_law_whole" "_law_whole" (defArgs s__law_whole) (defBody s__law_whole) (defScope s__law_whole) .none kV__law_whole dc__law_whole pm__law_whole an__law_whole cd__law_whole ct__law_whole), sl__law_whole⟩)
    (c__law_whole : PySem.W.codeIn K cd__law_whole "_law_whole" = true)
    (k__law_whole : PySem.W.keepIn K (.ref f__law_whole) = true)
    (a__law_fields : PySem.W.nsIn K mainGlobals "_law_fields" = some (some (.ref f__law_fields)))
    (l__law_fields : K.lookup f__law_fields = some ⟨oc__law_fields, od__law_fields, .func (PySem.W.fnOf "_law_fields" "_law_fields" (defArgs s__law_fields) (defBody s__law_fields) (defScope s__law_fields) .none kV__law_fields dc__law_fields pm__law_fields an__law_fields cd__law_fields ct__law_fields), sl__law_fields⟩)
    (c__law_fields : PySem.W.codeIn K cd__law_fields "_law_fields" = true)
    (k__law_fields : PySem.W.keepIn K (.ref f__law_fields) = true)
    (a__law_order : PySem.W.nsIn K mainGlobals "_law_order" = some (some (.ref f__law_order)))
    (l__law_order : K.lookup f__law_order = some ⟨oc__law_order, od__law_order, .func (PySem.W.fnOf "_law_order" "_law_order" (defArgs s__law_order) (defBody s__law_order) (defScope s__law_order) .none kV__law_order dc__law_order pm__law_order an__law_order cd__law_order ct__law_order), sl__law_order⟩)
    (c__law_order : PySem.W.codeIn K cd__law_order "_law_order" = true)
    (k__law_order : PySem.W.keepIn K (.ref f__law_order) = true)
    (a__law_keys : PySem.W.nsIn K mainGlobals "_law_keys" = some (some (.ref f__law_keys)))
    (l__law_keys : K.lookup f__law_keys = some ⟨oc__law_keys, od__law_keys, .func (PySem.W.fnOf "_law_keys" "_law_keys" (defArgs s__law_keys) (defBody s__law_keys) (defScope s__law_keys) .none kV__law_keys dc__law_keys pm__law_keys an__law_keys cd__law_keys ct__law_keys), sl__law_keys⟩)
    (c__law_keys : PySem.W.codeIn K cd__law_keys "_law_keys" = true)
    (k__law_keys : PySem.W.keepIn K (.ref f__law_keys) = true)
    (a__law_terms : PySem.W.nsIn K mainGlobals "_law_terms" = some (some (.ref f__law_terms)))
    (l__law_terms : K.lookup f__law_terms = some ⟨oc__law_terms, od__law_terms, .func (PySem.W.fnOf "_law_terms" "_law_terms" (defArgs s__law_terms) (defBody s__law_terms) (defScope s__law_terms) .none kV__law_terms dc__law_terms pm__law_terms an__law_terms cd__law_terms ct__law_terms), sl__law_terms⟩)
    (c__law_terms : PySem.W.codeIn K cd__law_terms "_law_terms" = true)
    (k__law_terms : PySem.W.keepIn K (.ref f__law_terms) = true)
    (a__law_told : PySem.W.nsIn K mainGlobals "_law_told" = some (some (.ref f__law_told)))
    (l__law_told : K.lookup f__law_told = some ⟨oc__law_told, od__law_told, .func (PySem.W.fnOf "_law_told" "_law_told" (defArgs s__law_told) (defBody s__law_told) (defScope s__law_told) .none kV__law_told dc__law_told pm__law_told an__law_told cd__law_told ct__law_told), sl__law_told⟩)
    (c__law_told : PySem.W.codeIn K cd__law_told "_law_told" = true)
    (k__law_told : PySem.W.keepIn K (.ref f__law_told) = true)
    (a__law_spoilt : PySem.W.nsIn K mainGlobals "_law_spoilt" = some (some (.ref f__law_spoilt)))
    (l__law_spoilt : K.lookup f__law_spoilt = some ⟨oc__law_spoilt, od__law_spoilt, .func (PySem.W.fnOf "_law_spoilt" "_law_spoilt" (defArgs s__law_spoilt) (defBody s__law_spoilt) (defScope s__law_spoilt) .none kV__law_spoilt dc__law_spoilt pm__law_spoilt an__law_spoilt cd__law_spoilt ct__law_spoilt), sl__law_spoilt⟩)
    (c__law_spoilt : PySem.W.codeIn K cd__law_spoilt "_law_spoilt" = true)
    (k__law_spoilt : PySem.W.keepIn K (.ref f__law_spoilt) = true)
    (a__law_error : PySem.W.nsIn K mainGlobals "_law_error" = some (some (.ref f__law_error)))
    (l__law_error : K.lookup f__law_error = some ⟨oc__law_error, od__law_error, .func (PySem.W.fnOf "_law_error" "_law_error" (defArgs s__law_error) (defBody s__law_error) (defScope s__law_error) .none kV__law_error dc__law_error pm__law_error an__law_error cd__law_error ct__law_error), sl__law_error⟩)
    (c__law_error : PySem.W.codeIn K cd__law_error "_law_error" = true)
    (k__law_error : PySem.W.keepIn K (.ref f__law_error) = true)
    (a_law : PySem.W.nsIn K mainGlobals "law" = some (some (.ref f_law)))
    (l_law : K.lookup f_law = some ⟨oc_law, od_law, .func (PySem.W.fnOf "law" "law" (defArgs s_law) (defBody s_law) (defScope s_law) .none kV_law dc_law pm_law an_law cd_law ct_law), sl_law⟩)
    (c_law : PySem.W.codeIn K cd_law "law" = true)
    (k_law : PySem.W.keepIn K (.ref f_law) = true)
    (a_Terms : PySem.W.nsIn K mainGlobals "Terms" = some (some (.ref c_Terms)))
    (pg_Terms : PySem.W.plainGet K c_Terms Str.empty = true)
    (hd_Terms : PySem.W.hasDictIn K c_Terms = true)
    (po_Terms : PySem.W.plainOver K c_Terms = true)
    (sa_Terms : PySem.W.findIn K (.ref c_Terms) "__setattr__" = some (some (.builtin "object.__setattr__")))
    (mks_Terms : PySem.W.makesIn K c_Terms = true)
    (kc_Terms : PySem.W.keepIn K (.ref c_Terms) = true)
    (na_Terms_name : PySem.W.findIn K (.ref c_Terms) "name" = some none)
    (na_Terms_count : PySem.W.findIn K (.ref c_Terms) "count" = some none)
    (na_Terms_every : PySem.W.findIn K (.ref c_Terms) "every" = some none)
    (na_Terms_due_on : PySem.W.findIn K (.ref c_Terms) "due_on" = some none)
    (na_Terms_calendar : PySem.W.findIn K (.ref c_Terms) "calendar" = some none)
    (na_Terms_rule : PySem.W.findIn K (.ref c_Terms) "rule" = some none)
    (na_Terms_index : PySem.W.findIn K (.ref c_Terms) "index" = some none)
    (na_Terms_rate : PySem.W.findIn K (.ref c_Terms) "rate" = some none)
    (na_Terms_lowest : PySem.W.findIn K (.ref c_Terms) "lowest" = some none)
    (na_Terms_highest : PySem.W.findIn K (.ref c_Terms) "highest" = some none)
    (na_Terms_convention : PySem.W.findIn K (.ref c_Terms) "convention" = some none)
    (na_Terms_mode : PySem.W.findIn K (.ref c_Terms) "mode" = some none)
    (na_Terms_scheme : PySem.W.findIn K (.ref c_Terms) "scheme" = some none)
    (na_Terms_free : PySem.W.findIn K (.ref c_Terms) "free" = some none)
    (na_Terms_opening_fee : PySem.W.findIn K (.ref c_Terms) "opening_fee" = some none)
    (na_Terms_opening_part : PySem.W.findIn K (.ref c_Terms) "opening_part" = some none)
    (na_Terms_period_fee : PySem.W.findIn K (.ref c_Terms) "period_fee" = some none)
    (na_Terms_late_fee : PySem.W.findIn K (.ref c_Terms) "late_fee" = some none)
    (na_Terms_grace : PySem.W.findIn K (.ref c_Terms) "grace" = some none)
    (na_Terms_early_part : PySem.W.findIn K (.ref c_Terms) "early_part" = some none)
    (na_Terms_early_months : PySem.W.findIn K (.ref c_Terms) "early_months" = some none)
    (na_Terms_order : PySem.W.findIn K (.ref c_Terms) "order" = some none)
    (na_Terms_penalty : PySem.W.findIn K (.ref c_Terms) "penalty" = some none)
    (third : PySem.W.nsIn K cStatics "thirdparty.any" = some none)
    (zsuper : PySem.W.nsIn K mainGlobals "super" = some none)
    (spc : PySem.W.specialIn K (.builtin "object.__class__") "__get__" = some (some (.builtin "getset_descriptor.__get__")))
    (tkc : PySem.W.takesIn K (.builtin "object.__class__") = some true)
    (a_BookError : PySem.W.nsIn K mainGlobals "BookError" = some (some (.ref c_BookError)))
    (ga_BookError : PySem.W.findIn K (.ref c_BookError) "__getattribute__" = some (some (.builtin "BaseException.__getattribute__")))
    (gg_BookError : PySem.W.findIn K (.ref c_BookError) "__getattr__" = some none)
    (sb_BookError : PySem.W.subIn K (.ref c_BookError) (.type "BaseException") = some true)
    (hd_BookError : PySem.W.hasDictIn K c_BookError = true)
    (ha_BookError : PySem.W.findIn K (.ref c_BookError) "__class__" = some (some (.builtin "object.__class__")))
    (hm_BookError : PySem.W.mroIn K c_BookError (.type "object") = some true)
    (ty_BookError : PySem.W.typeIn K (.ref c_BookError) = some (.type "type"))
    (se_BookError : PySem.W.mroIn K c_BookError (.ref c_BookError) = some true)
    (a_OutOfRange : PySem.W.nsIn K mainGlobals "OutOfRange" = some (some (.ref c_OutOfRange)))
    (ga_OutOfRange : PySem.W.findIn K (.ref c_OutOfRange) "__getattribute__" = some (some (.builtin "BaseException.__getattribute__")))
    (gg_OutOfRange : PySem.W.findIn K (.ref c_OutOfRange) "__getattr__" = some none)
    (sb_OutOfRange : PySem.W.subIn K (.ref c_OutOfRange) (.type "BaseException") = some true)
    (hd_OutOfRange : PySem.W.hasDictIn K c_OutOfRange = true)
    (ha_OutOfRange : PySem.W.findIn K (.ref c_OutOfRange) "__class__" = some (some (.builtin "object.__class__")))
    (hm_OutOfRange : PySem.W.mroIn K c_OutOfRange (.type "object") = some true)
    (ty_OutOfRange : PySem.W.typeIn K (.ref c_OutOfRange) = some (.type "type"))
    (se_OutOfRange : PySem.W.mroIn K c_OutOfRange (.ref c_OutOfRange) = some true)
    (xL_OutOfRange : K.lookup c_OutOfRange = some (excClassObj nm_OutOfRange q_OutOfRange c_OutOfRange N_OutOfRange bs_OutOfRange [.ref c_BookError, .type "ValueError", .type "Exception", .type "BaseException", .type "object"] true sn_OutOfRange sub_OutOfRange ab_OutOfRange col_OutOfRange dd_OutOfRange m0_OutOfRange m1_OutOfRange m2_OutOfRange m3_OutOfRange m5_OutOfRange "ValueError.__new__"))
    (sa_OutOfRange : PySem.W.findIn K (.ref c_OutOfRange) "__setattr__" = some (some (.builtin "object.__setattr__")))
    (kp_OutOfRange : PySem.W.keepIn K (.ref c_OutOfRange) = true)
    (i_OutOfRange : PySem.W.findIn K (.ref c_OutOfRange) "__init__" = some (some (.ref fI_OutOfRange)))
    (ti_OutOfRange : PySem.W.typeIn K (.ref fI_OutOfRange) = some (.type "function"))
    (li_OutOfRange : K.lookup fI_OutOfRange = some ⟨oc_OutOfRange, od_OutOfRange, .func ((⟨"__init__", "OutOfRange.__init__", defArgs s_OutOfRange, defBody s_OutOfRange, defScope s_OutOfRange, [(("__class__" : Str), cc_OutOfRange)], cda_OutOfRange⟩ : NdefX.NF).fd doc_OutOfRange pm_OutOfRange ct_OutOfRange), osl_OutOfRange⟩)
    (ci_OutOfRange : PySem.W.codeIn K (.ref cda_OutOfRange) "OutOfRange.__init__" = true)
    (ce_OutOfRange : K.lookup cc_OutOfRange = some ⟨cl_OutOfRange, cld_OutOfRange, .cell (some (.ref c_OutOfRange)), csl_OutOfRange⟩)
    (co_OutOfRange : K.lookup cda_OutOfRange = some ⟨ccl_OutOfRange, cdd_OutOfRange, .fields vs_OutOfRange, ccs_OutOfRange⟩)
    (vs_OutOfRange : vs_OutOfRange[2]? = some (.str file_OutOfRange tf_OutOfRange))
    (fi_OutOfRange : ((P.main.file : Str) == file_OutOfRange) = true)
    (su_OutOfRange : PySem.W.ks_superIn K c_OutOfRange c_OutOfRange "__init__" = some (some (.builtin "ValueError.__init__")))
    (ve_OutOfRange : PySem.W.subIn K (.ref c_OutOfRange) (.type "ValueError") = some true)
    (n_OutOfRange_label : PySem.W.findIn K (.ref c_OutOfRange) "label" = some none)
    (n_OutOfRange_value : PySem.W.findIn K (.ref c_OutOfRange) "value" = some none)
    (a_UnknownName : PySem.W.nsIn K mainGlobals "UnknownName" = some (some (.ref c_UnknownName)))
    (ga_UnknownName : PySem.W.findIn K (.ref c_UnknownName) "__getattribute__" = some (some (.builtin "BaseException.__getattribute__")))
    (gg_UnknownName : PySem.W.findIn K (.ref c_UnknownName) "__getattr__" = some none)
    (sb_UnknownName : PySem.W.subIn K (.ref c_UnknownName) (.type "BaseException") = some true)
    (hd_UnknownName : PySem.W.hasDictIn K c_UnknownName = true)
    (ha_UnknownName : PySem.W.findIn K (.ref c_UnknownName) "__class__" = some (some (.builtin "object.__class__")))
    (hm_UnknownName : PySem.W.mroIn K c_UnknownName (.type "object") = some true)
    (ty_UnknownName : PySem.W.typeIn K (.ref c_UnknownName) = some (.type "type"))
    (se_UnknownName : PySem.W.mroIn K c_UnknownName (.ref c_UnknownName) = some true)
    (xL_UnknownName : K.lookup c_UnknownName = some (excClassObj nm_UnknownName q_UnknownName c_UnknownName N_UnknownName bs_UnknownName [.ref c_BookError, .type "ValueError", .type "Exception", .type "BaseException", .type "object"] true sn_UnknownName sub_UnknownName ab_UnknownName col_UnknownName dd_UnknownName m0_UnknownName m1_UnknownName m2_UnknownName m3_UnknownName m5_UnknownName "ValueError.__new__"))
    (sa_UnknownName : PySem.W.findIn K (.ref c_UnknownName) "__setattr__" = some (some (.builtin "object.__setattr__")))
    (kp_UnknownName : PySem.W.keepIn K (.ref c_UnknownName) = true)
    (i_UnknownName : PySem.W.findIn K (.ref c_UnknownName) "__init__" = some (some (.ref fI_UnknownName)))
    (ti_UnknownName : PySem.W.typeIn K (.ref fI_UnknownName) = some (.type "function"))
    (li_UnknownName : K.lookup fI_UnknownName = some ⟨oc_UnknownName, od_UnknownName, .func ((⟨"__init__", "UnknownName.__init__", defArgs s_UnknownName, defBody s_UnknownName, defScope s_UnknownName, [(("__class__" : Str), cc_UnknownName)], cda_UnknownName⟩ : NdefX.NF).fd doc_UnknownName pm_UnknownName ct_UnknownName), osl_UnknownName⟩)
    (ci_UnknownName : PySem.W.codeIn K (.ref cda_UnknownName) "UnknownName.__init__" = true)
    (ce_UnknownName : K.lookup cc_UnknownName = some ⟨cl_UnknownName, cld_UnknownName, .cell (some (.ref c_UnknownName)), csl_UnknownName⟩)
    (co_UnknownName : K.lookup cda_UnknownName = some ⟨ccl_UnknownName, cdd_UnknownName, .fields vs_UnknownName, ccs_UnknownName⟩)
    (vs_UnknownName : vs_UnknownName[2]? = some (.str file_UnknownName tf_UnknownName))
    (fi_UnknownName : ((P.main.file : Str) == file_UnknownName) = true)
    (su_UnknownName : PySem.W.ks_superIn K c_UnknownName c_UnknownName "__init__" = some (some (.builtin "ValueError.__init__")))
    (ve_UnknownName : PySem.W.subIn K (.ref c_UnknownName) (.type "ValueError") = some true)
    (n_UnknownName_label : PySem.W.findIn K (.ref c_UnknownName) "label" = some none)
    (n_UnknownName_name : PySem.W.findIn K (.ref c_UnknownName) "name" = some none)
    (a_BadName : PySem.W.nsIn K mainGlobals "BadName" = some (some (.ref c_BadName)))
    (ga_BadName : PySem.W.findIn K (.ref c_BadName) "__getattribute__" = some (some (.builtin "BaseException.__getattribute__")))
    (gg_BadName : PySem.W.findIn K (.ref c_BadName) "__getattr__" = some none)
    (sb_BadName : PySem.W.subIn K (.ref c_BadName) (.type "BaseException") = some true)
    (hd_BadName : PySem.W.hasDictIn K c_BadName = true)
    (ha_BadName : PySem.W.findIn K (.ref c_BadName) "__class__" = some (some (.builtin "object.__class__")))
    (hm_BadName : PySem.W.mroIn K c_BadName (.type "object") = some true)
    (ty_BadName : PySem.W.typeIn K (.ref c_BadName) = some (.type "type"))
    (se_BadName : PySem.W.mroIn K c_BadName (.ref c_BadName) = some true)
    (xL_BadName : K.lookup c_BadName = some (excClassObj nm_BadName q_BadName c_BadName N_BadName bs_BadName [.ref c_BookError, .type "ValueError", .type "Exception", .type "BaseException", .type "object"] true sn_BadName sub_BadName ab_BadName col_BadName dd_BadName m0_BadName m1_BadName m2_BadName m3_BadName m5_BadName "ValueError.__new__"))
    (sa_BadName : PySem.W.findIn K (.ref c_BadName) "__setattr__" = some (some (.builtin "object.__setattr__")))
    (kp_BadName : PySem.W.keepIn K (.ref c_BadName) = true)
    (i_BadName : PySem.W.findIn K (.ref c_BadName) "__init__" = some (some (.ref fI_BadName)))
    (ti_BadName : PySem.W.typeIn K (.ref fI_BadName) = some (.type "function"))
    (li_BadName : K.lookup fI_BadName = some ⟨oc_BadName, od_BadName, .func ((⟨"__init__", "BadName.__init__", defArgs s_BadName, defBody s_BadName, defScope s_BadName, [(("__class__" : Str), cc_BadName)], cda_BadName⟩ : NdefX.NF).fd doc_BadName pm_BadName ct_BadName), osl_BadName⟩)
    (ci_BadName : PySem.W.codeIn K (.ref cda_BadName) "BadName.__init__" = true)
    (ce_BadName : K.lookup cc_BadName = some ⟨cl_BadName, cld_BadName, .cell (some (.ref c_BadName)), csl_BadName⟩)
    (co_BadName : K.lookup cda_BadName = some ⟨ccl_BadName, cdd_BadName, .fields vs_BadName, ccs_BadName⟩)
    (vs_BadName : vs_BadName[2]? = some (.str file_BadName tf_BadName))
    (fi_BadName : ((P.main.file : Str) == file_BadName) = true)
    (su_BadName : PySem.W.ks_superIn K c_BadName c_BadName "__init__" = some (some (.builtin "ValueError.__init__")))
    (ve_BadName : PySem.W.subIn K (.ref c_BadName) (.type "ValueError") = some true)
    (n_BadName_label : PySem.W.findIn K (.ref c_BadName) "label" = some none)
    (n_BadName_name : PySem.W.findIn K (.ref c_BadName) "name" = some none)
    (y_BookError_BookError : PySem.W.subIn K (.ref c_BookError) (.ref c_BookError) = some true)
    (y_BookError_OutOfRange : PySem.W.subIn K (.ref c_BookError) (.ref c_OutOfRange) = some false)
    (y_BookError_UnknownName : PySem.W.subIn K (.ref c_BookError) (.ref c_UnknownName) = some false)
    (y_BookError_BadName : PySem.W.subIn K (.ref c_BookError) (.ref c_BadName) = some false)
    (yv_BookError : PySem.W.subIn K (.ref c_BookError) (.type "ValueError") = some true)
    (y_OutOfRange_BookError : PySem.W.subIn K (.ref c_OutOfRange) (.ref c_BookError) = some true)
    (y_OutOfRange_OutOfRange : PySem.W.subIn K (.ref c_OutOfRange) (.ref c_OutOfRange) = some true)
    (y_OutOfRange_UnknownName : PySem.W.subIn K (.ref c_OutOfRange) (.ref c_UnknownName) = some false)
    (y_OutOfRange_BadName : PySem.W.subIn K (.ref c_OutOfRange) (.ref c_BadName) = some false)
    (yv_OutOfRange : PySem.W.subIn K (.ref c_OutOfRange) (.type "ValueError") = some true)
    (y_UnknownName_BookError : PySem.W.subIn K (.ref c_UnknownName) (.ref c_BookError) = some true)
    (y_UnknownName_OutOfRange : PySem.W.subIn K (.ref c_UnknownName) (.ref c_OutOfRange) = some false)
    (y_UnknownName_UnknownName : PySem.W.subIn K (.ref c_UnknownName) (.ref c_UnknownName) = some true)
    (y_UnknownName_BadName : PySem.W.subIn K (.ref c_UnknownName) (.ref c_BadName) = some false)
    (yv_UnknownName : PySem.W.subIn K (.ref c_UnknownName) (.type "ValueError") = some true)
    (y_BadName_BookError : PySem.W.subIn K (.ref c_BadName) (.ref c_BookError) = some true)
    (y_BadName_OutOfRange : PySem.W.subIn K (.ref c_BadName) (.ref c_OutOfRange) = some false)
    (y_BadName_UnknownName : PySem.W.subIn K (.ref c_BadName) (.ref c_UnknownName) = some false)
    (y_BadName_BadName : PySem.W.subIn K (.ref c_BadName) (.ref c_BadName) = some true)
    (yv_BadName : PySem.W.subIn K (.ref c_BadName) (.type "ValueError") = some true)
    (a_MOST_CENTS : PySem.W.nsIn K mainGlobals "MOST_CENTS" = some (some (.int 1000000000000 tk_MOST_CENTS)))
    (a_MOST_RATE : PySem.W.nsIn K mainGlobals "MOST_RATE" = some (some (.int 1000000 tk_MOST_RATE)))
    (a_NAME_LENGTH : PySem.W.nsIn K mainGlobals "NAME_LENGTH" = some (some (.int 12 tk_NAME_LENGTH)))
    (a_RULES : PySem.W.nsIn K mainGlobals "RULES" = some (some (.ref q_RULES)))
    (l_RULES : K.lookup q_RULES = some ⟨.type "tuple", od_RULES, .seq its_RULES nn_RULES, sl_RULES⟩)
    (u_RULES : valsB v_RULES its_RULES.toList = true)
    (a_PARTS : PySem.W.nsIn K mainGlobals "PARTS" = some (some (.ref q_PARTS)))
    (l_PARTS : K.lookup q_PARTS = some ⟨.type "dict", none, .dict es_PARTS nn_PARTS, #[]⟩)
    (kl_PARTS : PySem.W.KeysLit w.params es_PARTS.toList)
    (u_PARTS : dictB kv_PARTS es_PARTS.toList = true)
    (lo_PARTS : (q_PARTS == sysModules) = false)
    (a_MODES : PySem.W.nsIn K mainGlobals "MODES" = some (some (.ref q_MODES)))
    (l_MODES : K.lookup q_MODES = some ⟨.type "tuple", od_MODES, .seq its_MODES nn_MODES, sl_MODES⟩)
    (u_MODES : valsB v_MODES its_MODES.toList = true)
    (a_SCHEMES : PySem.W.nsIn K mainGlobals "SCHEMES" = some (some (.ref q_SCHEMES)))
    (l_SCHEMES : K.lookup q_SCHEMES = some ⟨.type "tuple", od_SCHEMES, .seq its_SCHEMES nn_SCHEMES, sl_SCHEMES⟩)
    (u_SCHEMES : valsB v_SCHEMES its_SCHEMES.toList = true)
    (a_EVERY : PySem.W.nsIn K mainGlobals "EVERY" = some (some (.ref q_EVERY)))
    (l_EVERY : K.lookup q_EVERY = some ⟨.type "tuple", od_EVERY, .seq its_EVERY nn_EVERY, sl_EVERY⟩)
    (u_EVERY : valsB v_EVERY its_EVERY.toList = true)
    (a_USUAL_ORDER : PySem.W.nsIn K mainGlobals "USUAL_ORDER" = some (some (.ref q_USUAL_ORDER)))
    (l_USUAL_ORDER : K.lookup q_USUAL_ORDER = some ⟨.type "tuple", od_USUAL_ORDER, .seq its_USUAL_ORDER nn_USUAL_ORDER, sl_USUAL_ORDER⟩)
    (u_USUAL_ORDER : valsB v_USUAL_ORDER its_USUAL_ORDER.toList = true)
    (a_SHORTEST_MONTH : PySem.W.nsIn K mainGlobals "SHORTEST_MONTH" = some (some (.int 28 tk_SHORTEST_MONTH)))
    (a_MOST_COUNT : PySem.W.nsIn K mainGlobals "MOST_COUNT" = some (some (.int 480 tk_MOST_COUNT)))
    (a_MOST_FREE : PySem.W.nsIn K mainGlobals "MOST_FREE" = some (some (.int 479 tk_MOST_FREE)))
    (a_MOST_GRACE : PySem.W.nsIn K mainGlobals "MOST_GRACE" = some (some (.int 90 tk_MOST_GRACE)))
    (a_MOST_PART : PySem.W.nsIn K mainGlobals "MOST_PART" = some (some (.int 1000 tk_MOST_PART)))
    (z_len : PySem.W.nsIn K mainGlobals "len" = some none)
    (z_tuple : PySem.W.nsIn K mainGlobals "tuple" = some none)
    (z_sorted : PySem.W.nsIn K mainGlobals "sorted" = some none)
    (z_abs : PySem.W.nsIn K mainGlobals "abs" = some none)
    (z_range : PySem.W.nsIn K mainGlobals "range" = some none)
    (z_int : PySem.W.nsIn K mainGlobals "int" = some none)
    (z_isinstance : PySem.W.nsIn K mainGlobals "isinstance" = some none)
    (z_bool : PySem.W.nsIn K mainGlobals "bool" = some none)
    (z_min : PySem.W.nsIn K mainGlobals "min" = some none)
    (z_str : PySem.W.nsIn K mainGlobals "str" = some none)
    (z_max : PySem.W.nsIn K mainGlobals "max" = some none)
    : ∃ fd : FuncData, (∀ (s : Shared) (u : Value), BindsTo s fd ⟨[u], []⟩ [("script", u)]) ∧ ∀ base : Heap, K.In base → base.Ns mainGlobals mg → FnOk P w K mg base (L2.CX P w) 11 fa fd ["script"] (sp_law K) := by
  let T : Txt w K mg := {
    a__wall := f__wall, fd__wall := _, F__wall := fun_of l__wall c__wall k__wall, m__wall := PySem.W.mg_of X G a__wall, b__wall := (fun_of l__wall c__wall k__wall).bindsN fun _ _ _ _ _ _ us hl => match us, hl with | [_], _ => rfl,
    a_check_between := f_check_between, fd_check_between := _, F_check_between := fun_of l_check_between c_check_between k_check_between, m_check_between := PySem.W.mg_of X G a_check_between, b_check_between := (fun_of l_check_between c_check_between k_check_between).bindsN fun _ _ _ _ _ _ us hl => match us, hl with | [_, _, _], _ => rfl,
    a_is_lower := f_is_lower, fd_is_lower := _, F_is_lower := fun_of l_is_lower c_is_lower k_is_lower, m_is_lower := PySem.W.mg_of X G a_is_lower, b_is_lower := (fun_of l_is_lower c_is_lower k_is_lower).bindsN fun _ _ _ _ _ _ us hl => match us, hl with | [_], _ => rfl,
    a_is_digit := f_is_digit, fd_is_digit := _, F_is_digit := fun_of l_is_digit c_is_digit k_is_digit, m_is_digit := PySem.W.mg_of X G a_is_digit, b_is_digit := (fun_of l_is_digit c_is_digit k_is_digit).bindsN fun _ _ _ _ _ _ us hl => match us, hl with | [_], _ => rfl,
    a_is_name := f_is_name, fd_is_name := _, F_is_name := fun_of l_is_name c_is_name k_is_name, m_is_name := PySem.W.mg_of X G a_is_name, b_is_name := (fun_of l_is_name c_is_name k_is_name).bindsN fun _ _ _ _ _ _ us hl => match us, hl with | [_], _ => rfl,
    a_check_name := f_check_name, fd_check_name := _, F_check_name := fun_of l_check_name c_check_name k_check_name, m_check_name := PySem.W.mg_of X G a_check_name, b_check_name := (fun_of l_check_name c_check_name k_check_name).bindsN fun _ _ _ _ _ _ us hl => match us, hl with | [_], _ => rfl,
    a_check_convention := f_check_convention, fd_check_convention := _, F_check_convention := fun_of l_check_convention c_check_convention k_check_convention, m_check_convention := PySem.W.mg_of X G a_check_convention, b_check_convention := (fun_of l_check_convention c_check_convention k_check_convention).bindsN fun _ _ _ _ _ _ us hl => match us, hl with | [_], _ => rfl,
    a_Terms___init__ := f_Terms___init__, fd_Terms___init__ := _, qk_Terms___init__ := qk_Terms___init__, tk_Terms___init__ := fun H => tup_of lk_Terms___init__ uk_Terms___init__, F_Terms___init__ := fun_ofK l_Terms___init__ c_Terms___init__ k_Terms___init__ (kw_cons kd_Terms___init___every ⟨_, rfl⟩ (kw_cons kd_Terms___init___due_on ⟨_, rfl⟩ (kw_cons kd_Terms___init___calendar ⟨_, rfl⟩ (kw_cons kd_Terms___init___rule ⟨_, rfl⟩ (kw_cons kd_Terms___init___index ⟨_, rfl⟩ (kw_cons kd_Terms___init___rate ⟨_, rfl⟩ (kw_cons kd_Terms___init___lowest ⟨_, rfl⟩ (kw_cons kd_Terms___init___highest ⟨_, rfl⟩ (kw_cons kd_Terms___init___convention ⟨_, rfl⟩ (kw_cons kd_Terms___init___mode ⟨_, rfl⟩ (kw_cons kd_Terms___init___scheme ⟨_, rfl⟩ (kw_cons kd_Terms___init___free ⟨_, rfl⟩ (kw_cons kd_Terms___init___opening_fee ⟨_, rfl⟩ (kw_cons kd_Terms___init___opening_part ⟨_, rfl⟩ (kw_cons kd_Terms___init___period_fee ⟨_, rfl⟩ (kw_cons kd_Terms___init___late_fee ⟨_, rfl⟩ (kw_cons kd_Terms___init___grace ⟨_, rfl⟩ (kw_cons kd_Terms___init___early_part ⟨_, rfl⟩ (kw_cons kd_Terms___init___early_months ⟨_, rfl⟩ (kw_cons kd_Terms___init___order rfl (kw_cons kd_Terms___init___penalty ⟨_, rfl⟩ kw_nil))))))))))))))))))))),
    a_Terms_parts := f_Terms_parts, fd_Terms_parts := _, F_Terms_parts := fun_of l_Terms_parts c_Terms_parts k_Terms_parts, b_Terms_parts := (fun_of l_Terms_parts c_Terms_parts k_Terms_parts).bindsN fun _ _ _ _ _ _ us hl => match us, hl with | [_], _ => rfl,
    a_Terms_copy_of := f_Terms_copy_of, fd_Terms_copy_of := _, F_Terms_copy_of := fun_of l_Terms_copy_of c_Terms_copy_of k_Terms_copy_of, b_Terms_copy_of := (fun_of l_Terms_copy_of c_Terms_copy_of k_Terms_copy_of).bindsN fun _ _ _ _ _ _ us hl => match us, hl with | [_], _ => rfl,
    a_Terms_same_as := f_Terms_same_as, fd_Terms_same_as := _, F_Terms_same_as := fun_of l_Terms_same_as c_Terms_same_as k_Terms_same_as, b_Terms_same_as := (fun_of l_Terms_same_as c_Terms_same_as k_Terms_same_as).bindsN fun _ _ _ _ _ _ us hl => match us, hl with | [_, _], _ => rfl,
    a_check_word := f_check_word, fd_check_word := _, F_check_word := fun_of l_check_word c_check_word k_check_word, m_check_word := PySem.W.mg_of X G a_check_word, b_check_word := (fun_of l_check_word c_check_word k_check_word).bindsN fun _ _ _ _ _ _ us hl => match us, hl with | [_, _], _ => rfl,
    a_check_terms := f_check_terms, fd_check_terms := _, F_check_terms := fun_of l_check_terms c_check_terms k_check_terms, m_check_terms := PySem.W.mg_of X G a_check_terms, b_check_terms := (fun_of l_check_terms c_check_terms k_check_terms).bindsN fun _ _ _ _ _ _ us hl => match us, hl with | [_], _ => rfl,
    a_check_charges := f_check_charges, fd_check_charges := _, F_check_charges := fun_of l_check_charges c_check_charges k_check_charges, m_check_charges := PySem.W.mg_of X G a_check_charges, b_check_charges := (fun_of l_check_charges c_check_charges k_check_charges).bindsN fun _ _ _ _ _ _ us hl => match us, hl with | [_], _ => rfl,
    a_check_together := f_check_together, fd_check_together := _, F_check_together := fun_of l_check_together c_check_together k_check_together, m_check_together := PySem.W.mg_of X G a_check_together, b_check_together := (fun_of l_check_together c_check_together k_check_together).bindsN fun _ _ _ _ _ _ us hl => match us, hl with | [_], _ => rfl,
    a_is_late_too_long := f_is_late_too_long, fd_is_late_too_long := _, F_is_late_too_long := fun_of l_is_late_too_long c_is_late_too_long k_is_late_too_long, m_is_late_too_long := PySem.W.mg_of X G a_is_late_too_long, b_is_late_too_long := (fun_of l_is_late_too_long c_is_late_too_long k_is_late_too_long).bindsN fun _ _ _ _ _ _ us hl => match us, hl with | [_, _, _], _ => rfl,
    a__law_cell := f__law_cell, fd__law_cell := _, F__law_cell := fun_of l__law_cell c__law_cell k__law_cell, m__law_cell := PySem.W.mg_of X G a__law_cell, b__law_cell := (fun_of l__law_cell c__law_cell k__law_cell).bindsN fun _ _ _ _ _ _ us hl => match us, hl with | [_, _], _ => rfl,
    a__law_draw := f__law_draw, fd__law_draw := _, F__law_draw := fun_of l__law_draw c__law_draw k__law_draw, m__law_draw := PySem.W.mg_of X G a__law_draw, b__law_draw := (fun_of l__law_draw c__law_draw k__law_draw).bindsN fun _ _ _ _ _ _ us hl => match us, hl with | [_, _], _ => rfl,
    a__law_whole := f__law_whole, fd__law_whole := _, F__law_whole := fun_of l__law_whole c__law_whole k__law_whole, m__law_whole := PySem.W.mg_of X G a__law_whole, b__law_whole := (fun_of l__law_whole c__law_whole k__law_whole).bindsN fun _ _ _ _ _ _ us hl => match us, hl with | [_], _ => rfl,
    a__law_fields := f__law_fields, fd__law_fields := _, F__law_fields := fun_of l__law_fields c__law_fields k__law_fields, m__law_fields := PySem.W.mg_of X G a__law_fields, b__law_fields := (fun_of l__law_fields c__law_fields k__law_fields).bindsN fun _ _ _ _ _ _ us hl => match us, hl with | [_, _], _ => rfl,
    a__law_order := f__law_order, fd__law_order := _, F__law_order := fun_of l__law_order c__law_order k__law_order, m__law_order := PySem.W.mg_of X G a__law_order, b__law_order := (fun_of l__law_order c__law_order k__law_order).bindsN fun _ _ _ _ _ _ us hl => match us, hl with | [_], _ => rfl,
    a__law_keys := f__law_keys, fd__law_keys := _, F__law_keys := fun_of l__law_keys c__law_keys k__law_keys, m__law_keys := PySem.W.mg_of X G a__law_keys, b__law_keys := (fun_of l__law_keys c__law_keys k__law_keys).bindsN fun _ _ _ _ _ _ us hl => match us, hl with | [], _ => rfl,
    a__law_terms := f__law_terms, fd__law_terms := _, F__law_terms := fun_of l__law_terms c__law_terms k__law_terms, m__law_terms := PySem.W.mg_of X G a__law_terms, b__law_terms := (fun_of l__law_terms c__law_terms k__law_terms).bindsN fun _ _ _ _ _ _ us hl => match us, hl with | [_], _ => rfl,
    a__law_told := f__law_told, fd__law_told := _, F__law_told := fun_of l__law_told c__law_told k__law_told, m__law_told := PySem.W.mg_of X G a__law_told, b__law_told := (fun_of l__law_told c__law_told k__law_told).bindsN fun _ _ _ _ _ _ us hl => match us, hl with | [_], _ => rfl,
    a__law_spoilt := f__law_spoilt, fd__law_spoilt := _, F__law_spoilt := fun_of l__law_spoilt c__law_spoilt k__law_spoilt, m__law_spoilt := PySem.W.mg_of X G a__law_spoilt, b__law_spoilt := (fun_of l__law_spoilt c__law_spoilt k__law_spoilt).bindsN fun _ _ _ _ _ _ us hl => match us, hl with | [_, _], _ => rfl,
    a__law_error := f__law_error, fd__law_error := _, F__law_error := fun_of l__law_error c__law_error k__law_error, m__law_error := PySem.W.mg_of X G a__law_error, b__law_error := (fun_of l__law_error c__law_error k__law_error).bindsN fun _ _ _ _ _ _ us hl => match us, hl with | [_, _], _ => rfl,
    a_law := f_law, fd_law := _, F_law := fun_of l_law c_law k_law, m_law := PySem.W.mg_of X G a_law, b_law := (fun_of l_law c_law k_law).bindsN fun _ _ _ _ _ _ us hl => match us, hl with | [_], _ => rfl,
    c_Terms := c_Terms, m_Terms := PySem.W.mg_of X G a_Terms, cl_Terms := ⟨pg_Terms, hd_Terms, po_Terms, sa_Terms⟩, mk_Terms := ⟨mks_Terms, a_Terms___init__, i_Terms___init__, kc_Terms⟩,
    me_Terms_parts := ⟨a_Terms_parts, i_Terms_parts, k_Terms_parts⟩,
    me_Terms_copy_of := ⟨a_Terms_copy_of, i_Terms_copy_of, k_Terms_copy_of⟩,
    me_Terms_same_as := ⟨a_Terms_same_as, i_Terms_same_as, k_Terms_same_as⟩,
    na_Terms_name := na_Terms_name,
    na_Terms_count := na_Terms_count,
    na_Terms_every := na_Terms_every,
    na_Terms_due_on := na_Terms_due_on,
    na_Terms_calendar := na_Terms_calendar,
    na_Terms_rule := na_Terms_rule,
    na_Terms_index := na_Terms_index,
    na_Terms_rate := na_Terms_rate,
    na_Terms_lowest := na_Terms_lowest,
    na_Terms_highest := na_Terms_highest,
    na_Terms_convention := na_Terms_convention,
    na_Terms_mode := na_Terms_mode,
    na_Terms_scheme := na_Terms_scheme,
    na_Terms_free := na_Terms_free,
    na_Terms_opening_fee := na_Terms_opening_fee,
    na_Terms_opening_part := na_Terms_opening_part,
    na_Terms_period_fee := na_Terms_period_fee,
    na_Terms_late_fee := na_Terms_late_fee,
    na_Terms_grace := na_Terms_grace,
    na_Terms_early_part := na_Terms_early_part,
    na_Terms_early_months := na_Terms_early_months,
    na_Terms_order := na_Terms_order,
    na_Terms_penalty := na_Terms_penalty,
    c_BookError := c_BookError, m_BookError := PySem.W.mg_of X G a_BookError, e_BookError := ⟨⟨ga_BookError, gg_BookError, sb_BookError, hd_BookError, ha_BookError, spc, tkc, hm_BookError⟩, ty_BookError, se_BookError⟩,
    c_OutOfRange := c_OutOfRange, m_OutOfRange := PySem.W.mg_of X G a_OutOfRange, e_OutOfRange := ⟨⟨ga_OutOfRange, gg_OutOfRange, sb_OutOfRange, hd_OutOfRange, ha_OutOfRange, spc, tkc, hm_OutOfRange⟩, ty_OutOfRange, se_OutOfRange⟩,
    x_OutOfRange := ⟨fI_OutOfRange, cc_OutOfRange, cda_OutOfRange, _, _, _, _, _, _, ⟨⟨⟨nm_OutOfRange, q_OutOfRange, N_OutOfRange, bs_OutOfRange, _, sn_OutOfRange, sub_OutOfRange, ab_OutOfRange, col_OutOfRange, dd_OutOfRange, m0_OutOfRange, m1_OutOfRange, m2_OutOfRange, m3_OutOfRange, m5_OutOfRange, xL_OutOfRange, rfl⟩, sa_OutOfRange, sb_OutOfRange, ty_OutOfRange, kp_OutOfRange⟩, i_OutOfRange, ti_OutOfRange, ⟨_, _, _, ce_OutOfRange⟩, ⟨_, _, _, _, _, _, co_OutOfRange, vs_OutOfRange, fi_OutOfRange⟩, by decide +kernel, PySem.W.mg_none_of X G zsuper, se_OutOfRange, third, su_OutOfRange, ve_OutOfRange⟩, li_OutOfRange, ci_OutOfRange⟩,
    n_OutOfRange_label := n_OutOfRange_label,
    n_OutOfRange_value := n_OutOfRange_value,
    c_UnknownName := c_UnknownName, m_UnknownName := PySem.W.mg_of X G a_UnknownName, e_UnknownName := ⟨⟨ga_UnknownName, gg_UnknownName, sb_UnknownName, hd_UnknownName, ha_UnknownName, spc, tkc, hm_UnknownName⟩, ty_UnknownName, se_UnknownName⟩,
    x_UnknownName := ⟨fI_UnknownName, cc_UnknownName, cda_UnknownName, _, _, _, _, _, _, ⟨⟨⟨nm_UnknownName, q_UnknownName, N_UnknownName, bs_UnknownName, _, sn_UnknownName, sub_UnknownName, ab_UnknownName, col_UnknownName, dd_UnknownName, m0_UnknownName, m1_UnknownName, m2_UnknownName, m3_UnknownName, m5_UnknownName, xL_UnknownName, rfl⟩, sa_UnknownName, sb_UnknownName, ty_UnknownName, kp_UnknownName⟩, i_UnknownName, ti_UnknownName, ⟨_, _, _, ce_UnknownName⟩, ⟨_, _, _, _, _, _, co_UnknownName, vs_UnknownName, fi_UnknownName⟩, by decide +kernel, PySem.W.mg_none_of X G zsuper, se_UnknownName, third, su_UnknownName, ve_UnknownName⟩, li_UnknownName, ci_UnknownName⟩,
    n_UnknownName_label := n_UnknownName_label,
    n_UnknownName_name := n_UnknownName_name,
    c_BadName := c_BadName, m_BadName := PySem.W.mg_of X G a_BadName, e_BadName := ⟨⟨ga_BadName, gg_BadName, sb_BadName, hd_BadName, ha_BadName, spc, tkc, hm_BadName⟩, ty_BadName, se_BadName⟩,
    x_BadName := ⟨fI_BadName, cc_BadName, cda_BadName, _, _, _, _, _, _, ⟨⟨⟨nm_BadName, q_BadName, N_BadName, bs_BadName, _, sn_BadName, sub_BadName, ab_BadName, col_BadName, dd_BadName, m0_BadName, m1_BadName, m2_BadName, m3_BadName, m5_BadName, xL_BadName, rfl⟩, sa_BadName, sb_BadName, ty_BadName, kp_BadName⟩, i_BadName, ti_BadName, ⟨_, _, _, ce_BadName⟩, ⟨_, _, _, _, _, _, co_BadName, vs_BadName, fi_BadName⟩, by decide +kernel, PySem.W.mg_none_of X G zsuper, se_BadName, third, su_BadName, ve_BadName⟩, li_BadName, ci_BadName⟩,
    n_BadName_label := n_BadName_label,
    n_BadName_name := n_BadName_name,
    y_BookError_BookError := y_BookError_BookError,
    y_BookError_OutOfRange := y_BookError_OutOfRange,
    y_BookError_UnknownName := y_BookError_UnknownName,
    y_BookError_BadName := y_BookError_BadName,
    yv_BookError := yv_BookError,
    y_OutOfRange_BookError := y_OutOfRange_BookError,
    y_OutOfRange_OutOfRange := y_OutOfRange_OutOfRange,
    y_OutOfRange_UnknownName := y_OutOfRange_UnknownName,
    y_OutOfRange_BadName := y_OutOfRange_BadName,
    yv_OutOfRange := yv_OutOfRange,
    y_UnknownName_BookError := y_UnknownName_BookError,
    y_UnknownName_OutOfRange := y_UnknownName_OutOfRange,
    y_UnknownName_UnknownName := y_UnknownName_UnknownName,
    y_UnknownName_BadName := y_UnknownName_BadName,
    yv_UnknownName := yv_UnknownName,
    y_BadName_BookError := y_BadName_BookError,
    y_BadName_OutOfRange := y_BadName_OutOfRange,
    y_BadName_UnknownName := y_BadName_UnknownName,
    y_BadName_BadName := y_BadName_BadName,
    yv_BadName := yv_BadName,
    m_MOST_CENTS := ⟨_, PySem.W.mg_of X G a_MOST_CENTS⟩,
    m_MOST_RATE := ⟨_, PySem.W.mg_of X G a_MOST_RATE⟩,
    m_NAME_LENGTH := ⟨_, PySem.W.mg_of X G a_NAME_LENGTH⟩,
    q_RULES := q_RULES, m_RULES := PySem.W.mg_of X G a_RULES, t_RULES := fun H => tup_of l_RULES u_RULES,
    q_PARTS := q_PARTS, m_PARTS := PySem.W.mg_of X G a_PARTS, kd_PARTS := ⟨_, _, ⟨l_PARTS, kl_PARTS, lo_PARTS⟩⟩, ka_PARTS := fun z => kat_of l_PARTS u_PARTS z,
    q_MODES := q_MODES, m_MODES := PySem.W.mg_of X G a_MODES, t_MODES := fun H => tup_of l_MODES u_MODES,
    q_SCHEMES := q_SCHEMES, m_SCHEMES := PySem.W.mg_of X G a_SCHEMES, t_SCHEMES := fun H => tup_of l_SCHEMES u_SCHEMES,
    q_EVERY := q_EVERY, m_EVERY := PySem.W.mg_of X G a_EVERY, t_EVERY := fun H => tup_of l_EVERY u_EVERY,
    q_USUAL_ORDER := q_USUAL_ORDER, m_USUAL_ORDER := PySem.W.mg_of X G a_USUAL_ORDER, t_USUAL_ORDER := fun H => tup_of l_USUAL_ORDER u_USUAL_ORDER,
    m_SHORTEST_MONTH := ⟨_, PySem.W.mg_of X G a_SHORTEST_MONTH⟩,
    m_MOST_COUNT := ⟨_, PySem.W.mg_of X G a_MOST_COUNT⟩,
    m_MOST_FREE := ⟨_, PySem.W.mg_of X G a_MOST_FREE⟩,
    m_MOST_GRACE := ⟨_, PySem.W.mg_of X G a_MOST_GRACE⟩,
    m_MOST_PART := ⟨_, PySem.W.mg_of X G a_MOST_PART⟩,
    z_len := PySem.W.mg_none_of X G z_len,
    z_tuple := PySem.W.mg_none_of X G z_tuple,
    z_sorted := PySem.W.mg_none_of X G z_sorted,
    z_abs := PySem.W.mg_none_of X G z_abs,
    z_range := PySem.W.mg_none_of X G z_range,
    z_int := PySem.W.mg_none_of X G z_int,
    z_isinstance := PySem.W.mg_none_of X G z_isinstance,
    z_bool := PySem.W.mg_none_of X G z_bool,
    z_min := PySem.W.mg_none_of X G z_min,
    z_str := PySem.W.mg_none_of X G z_str,
    z_max := PySem.W.mg_none_of X G z_max }
  have e := hfa.symm.trans T.m_law
  cases e
  exact ⟨_, fun s u => T.F_law.bindsA (ps := ["script"]) (fun _ _ _ _ _ _ us hl => match us, hl with | [_], _ => rfl) s [u] rfl, fun base _ _ => (ok_law T).mono (by decide)⟩
end My
open PySem PySem.W PyProof.Rows
set_option maxRecDepth 100000 in
set_option maxHeartbeats 0 in
theorem PySem.Challenge.cw_lendbook_k27_terms_refuse_holds : PySem.Challenge.rw_lendbook_k27_terms_refuse.Holds := by
  w_on; o_law; k_head; (case hw => w_witness2)
  k_fill
  refine LB.walk (l := PySem.Challenge.rw_lendbook_k27_terms_refuse) (k := 11) rfl rfl ⟨rfl, by decide, by decide⟩ (fun w h Y => PySem.W.kIn_of Y) ?F
  case F =>
    intro w mg fa h KX G hmg
    refine' My.all_mk KX G hmg ?a__wall ?l__wall ?c__wall ?k__wall ?a_check_between ?l_check_between ?c_check_between ?k_check_between ?a_is_lower ?l_is_lower ?c_is_lower ?k_is_lower ?a_is_digit ?l_is_digit ?c_is_digit ?k_is_digit ?a_is_name ?l_is_name ?c_is_name ?k_is_name ?a_check_name ?l_check_name ?c_check_name ?k_check_name ?a_check_convention ?l_check_convention ?c_check_convention ?k_check_convention ?a_Terms___init__ ?l_Terms___init__ ?c_Terms___init__ ?k_Terms___init__ ?kd_Terms___init___every ?kd_Terms___init___due_on ?kd_Terms___init___calendar ?kd_Terms___init___rule ?kd_Terms___init___index ?kd_Terms___init___rate ?kd_Terms___init___lowest ?kd_Terms___init___highest ?kd_Terms___init___convention ?kd_Terms___init___mode ?kd_Terms___init___scheme ?kd_Terms___init___free ?kd_Terms___init___opening_fee ?kd_Terms___init___opening_part ?kd_Terms___init___period_fee ?kd_Terms___init___late_fee ?kd_Terms___init___grace ?kd_Terms___init___early_part ?kd_Terms___init___early_months ?kd_Terms___init___order ?kd_Terms___init___penalty ?lk_Terms___init__ ?uk_Terms___init__ ?i_Terms___init__ ?a_Terms_parts ?l_Terms_parts ?c_Terms_parts ?k_Terms_parts ?i_Terms_parts ?a_Terms_copy_of ?l_Terms_copy_of ?c_Terms_copy_of ?k_Terms_copy_of ?i_Terms_copy_of ?a_Terms_same_as ?l_Terms_same_as ?c_Terms_same_as ?k_Terms_same_as ?i_Terms_same_as ?a_check_word ?l_check_word ?c_check_word ?k_check_word ?a_check_terms ?l_check_terms ?c_check_terms ?k_check_terms ?a_check_charges ?l_check_charges ?c_check_charges ?k_check_charges ?a_check_together ?l_check_together ?c_check_together ?k_check_together ?a_is_late_too_long ?l_is_late_too_long ?c_is_late_too_long ?k_is_late_too_long ?a__law_cell ?l__law_cell ?c__law_cell ?k__law_cell ?a__law_draw ?l__law_draw ?c__law_draw ?k__law_draw ?a__law_whole ?l__law_whole ?c__law_whole ?k__law_whole ?a__law_fields ?l__law_fields ?c__law_fields ?k__law_fields ?a__law_order ?l__law_order ?c__law_order ?k__law_order ?a__law_keys ?l__law_keys ?c__law_keys ?k__law_keys ?a__law_terms ?l__law_terms ?c__law_terms ?k__law_terms ?a__law_told ?l__law_told ?c__law_told ?k__law_told ?a__law_spoilt ?l__law_spoilt ?c__law_spoilt ?k__law_spoilt ?a__law_error ?l__law_error ?c__law_error ?k__law_error ?a_law ?l_law ?c_law ?k_law ?a_Terms ?pg_Terms ?hd_Terms ?po_Terms ?sa_Terms ?mks_Terms ?kc_Terms ?na_Terms_name ?na_Terms_count ?na_Terms_every ?na_Terms_due_on ?na_Terms_calendar ?na_Terms_rule ?na_Terms_index ?na_Terms_rate ?na_Terms_lowest ?na_Terms_highest ?na_Terms_convention ?na_Terms_mode ?na_Terms_scheme ?na_Terms_free ?na_Terms_opening_fee ?na_Terms_opening_part ?na_Terms_period_fee ?na_Terms_late_fee ?na_Terms_grace ?na_Terms_early_part ?na_Terms_early_months ?na_Terms_order ?na_Terms_penalty ?third ?zsuper ?spc ?tkc ?a_BookError ?ga_BookError ?gg_BookError ?sb_BookError ?hd_BookError ?ha_BookError ?hm_BookError ?ty_BookError ?se_BookError ?a_OutOfRange ?ga_OutOfRange ?gg_OutOfRange ?sb_OutOfRange ?hd_OutOfRange ?ha_OutOfRange ?hm_OutOfRange ?ty_OutOfRange ?se_OutOfRange ?xL_OutOfRange ?sa_OutOfRange ?kp_OutOfRange ?i_OutOfRange ?ti_OutOfRange ?li_OutOfRange ?ci_OutOfRange ?ce_OutOfRange ?co_OutOfRange ?vs_OutOfRange ?fi_OutOfRange ?su_OutOfRange ?ve_OutOfRange ?n_OutOfRange_label ?n_OutOfRange_value ?a_UnknownName ?ga_UnknownName ?gg_UnknownName ?sb_UnknownName ?hd_UnknownName ?ha_UnknownName ?hm_UnknownName ?ty_UnknownName ?se_UnknownName ?xL_UnknownName ?sa_UnknownName ?kp_UnknownName ?i_UnknownName ?ti_UnknownName ?li_UnknownName ?ci_UnknownName ?ce_UnknownName ?co_UnknownName ?vs_UnknownName ?fi_UnknownName ?su_UnknownName ?ve_UnknownName ?n_UnknownName_label ?n_UnknownName_name ?a_BadName ?ga_BadName ?gg_BadName ?sb_BadName ?hd_BadName ?ha_BadName ?hm_BadName ?ty_BadName ?se_BadName ?xL_BadName ?sa_BadName ?kp_BadName ?i_BadName ?ti_BadName ?li_BadName ?ci_BadName ?ce_BadName ?co_BadName ?vs_BadName ?fi_BadName ?su_BadName ?ve_BadName ?n_BadName_label ?n_BadName_name ?y_BookError_BookError ?y_BookError_OutOfRange ?y_BookError_UnknownName ?y_BookError_BadName ?yv_BookError ?y_OutOfRange_BookError ?y_OutOfRange_OutOfRange ?y_OutOfRange_UnknownName ?y_OutOfRange_BadName ?yv_OutOfRange ?y_UnknownName_BookError ?y_UnknownName_OutOfRange ?y_UnknownName_UnknownName ?y_UnknownName_BadName ?yv_UnknownName ?y_BadName_BookError ?y_BadName_OutOfRange ?y_BadName_UnknownName ?y_BadName_BadName ?yv_BadName ?a_MOST_CENTS ?a_MOST_RATE ?a_NAME_LENGTH ?a_RULES ?l_RULES ?u_RULES ?a_PARTS ?l_PARTS ?kl_PARTS ?u_PARTS ?lo_PARTS ?a_MODES ?l_MODES ?u_MODES ?a_SCHEMES ?l_SCHEMES ?u_SCHEMES ?a_EVERY ?l_EVERY ?u_EVERY ?a_USUAL_ORDER ?l_USUAL_ORDER ?u_USUAL_ORDER ?a_SHORTEST_MONTH ?a_MOST_COUNT ?a_MOST_FREE ?a_MOST_GRACE ?a_MOST_PART ?z_len ?z_tuple ?z_sorted ?z_abs ?z_range ?z_int ?z_isinstance ?z_bool ?z_min ?z_str ?z_max
    (case a_Terms => k_is)
    (case a__wall => k_is)
    (case l__wall => k_is)
    (case c__wall => k_is)
    (case k__wall => k_is)
    (case a_check_between => k_is)
    (case l_check_between => k_is)
    (case c_check_between => k_is)
    (case k_check_between => k_is)
    (case a_is_lower => k_is)
    (case l_is_lower => k_is)
    (case c_is_lower => k_is)
    (case k_is_lower => k_is)
    (case a_is_digit => k_is)
    (case l_is_digit => k_is)
    (case c_is_digit => k_is)
    (case k_is_digit => k_is)
    (case a_is_name => k_is)
    (case l_is_name => k_is)
    (case c_is_name => k_is)
    (case k_is_name => k_is)
    (case a_check_name => k_is)
    (case l_check_name => k_is)
    (case c_check_name => k_is)
    (case k_check_name => k_is)
    (case a_check_convention => k_is)
    (case l_check_convention => k_is)
    (case c_check_convention => k_is)
    (case k_check_convention => k_is)
    (case a_Terms___init__ => k_is)
    (case l_Terms___init__ => k_is)
    (case c_Terms___init__ => k_is)
    (case k_Terms___init__ => k_is)
    (case kd_Terms___init___every => k_is)
    (case kd_Terms___init___due_on => k_is)
    (case kd_Terms___init___calendar => k_is)
    (case kd_Terms___init___rule => k_is)
    (case kd_Terms___init___index => k_is)
    (case kd_Terms___init___rate => k_is)
    (case kd_Terms___init___lowest => k_is)
    (case kd_Terms___init___highest => k_is)
    (case kd_Terms___init___convention => k_is)
    (case kd_Terms___init___mode => k_is)
    (case kd_Terms___init___scheme => k_is)
    (case kd_Terms___init___free => k_is)
    (case kd_Terms___init___opening_fee => k_is)
    (case kd_Terms___init___opening_part => k_is)
    (case kd_Terms___init___period_fee => k_is)
    (case kd_Terms___init___late_fee => k_is)
    (case kd_Terms___init___grace => k_is)
    (case kd_Terms___init___early_part => k_is)
    (case kd_Terms___init___early_months => k_is)
    (case kd_Terms___init___order => k_is)
    (case kd_Terms___init___penalty => k_is)
    (case lk_Terms___init__ => k_is)
    (case uk_Terms___init__ => decide +kernel)
    (case i_Terms___init__ => k_is)
    (case a_Terms_parts => k_is)
    (case l_Terms_parts => k_is)
    (case c_Terms_parts => k_is)
    (case k_Terms_parts => k_is)
    (case i_Terms_parts => k_is)
    (case a_Terms_copy_of => k_is)
    (case l_Terms_copy_of => k_is)
    (case c_Terms_copy_of => k_is)
    (case k_Terms_copy_of => k_is)
    (case i_Terms_copy_of => k_is)
    (case a_Terms_same_as => k_is)
    (case l_Terms_same_as => k_is)
    (case c_Terms_same_as => k_is)
    (case k_Terms_same_as => k_is)
    (case i_Terms_same_as => k_is)
    (case a_check_word => k_is)
    (case l_check_word => k_is)
    (case c_check_word => k_is)
    (case k_check_word => k_is)
    (case a_check_terms => k_is)
    (case l_check_terms => k_is)
    (case c_check_terms => k_is)
    (case k_check_terms => k_is)
    (case a_check_charges => k_is)
    (case l_check_charges => k_is)
    (case c_check_charges => k_is)
    (case k_check_charges => k_is)
    (case a_check_together => k_is)
    (case l_check_together => k_is)
    (case c_check_together => k_is)
    (case k_check_together => k_is)
    (case a_is_late_too_long => k_is)
    (case l_is_late_too_long => k_is)
    (case c_is_late_too_long => k_is)
    (case k_is_late_too_long => k_is)
    (case a__law_cell => k_is)
    (case l__law_cell => k_is)
    (case c__law_cell => k_is)
    (case k__law_cell => k_is)
    (case a__law_draw => k_is)
    (case l__law_draw => k_is)
    (case c__law_draw => k_is)
    (case k__law_draw => k_is)
    (case a__law_whole => k_is)
    (case l__law_whole => k_is)
    (case c__law_whole => k_is)
    (case k__law_whole => k_is)
    (case a__law_fields => k_is)
    (case l__law_fields => k_is)
    (case c__law_fields => k_is)
    (case k__law_fields => k_is)
    (case a__law_order => k_is)
    (case l__law_order => k_is)
    (case c__law_order => k_is)
    (case k__law_order => k_is)
    (case a__law_keys => k_is)
    (case l__law_keys => k_is)
    (case c__law_keys => k_is)
    (case k__law_keys => k_is)
    (case a__law_terms => k_is)
    (case l__law_terms => k_is)
    (case c__law_terms => k_is)
    (case k__law_terms => k_is)
    (case a__law_told => k_is)
    (case l__law_told => k_is)
    (case c__law_told => k_is)
    (case k__law_told => k_is)
    (case a__law_spoilt => k_is)
    (case l__law_spoilt => k_is)
    (case c__law_spoilt => k_is)
    (case k__law_spoilt => k_is)
    (case a__law_error => k_is)
    (case l__law_error => k_is)
    (case c__law_error => k_is)
    (case k__law_error => k_is)
    (case a_law => k_is)
    (case l_law => k_is)
    (case c_law => k_is)
    (case k_law => k_is)
    (case pg_Terms => k_is)
    (case hd_Terms => k_is)
    (case po_Terms => k_is)
    (case sa_Terms => k_is)
    (case mks_Terms => k_is)
    (case kc_Terms => k_is)
    (case na_Terms_name => k_is)
    (case na_Terms_count => k_is)
    (case na_Terms_every => k_is)
    (case na_Terms_due_on => k_is)
    (case na_Terms_calendar => k_is)
    (case na_Terms_rule => k_is)
    (case na_Terms_index => k_is)
    (case na_Terms_rate => k_is)
    (case na_Terms_lowest => k_is)
    (case na_Terms_highest => k_is)
    (case na_Terms_convention => k_is)
    (case na_Terms_mode => k_is)
    (case na_Terms_scheme => k_is)
    (case na_Terms_free => k_is)
    (case na_Terms_opening_fee => k_is)
    (case na_Terms_opening_part => k_is)
    (case na_Terms_period_fee => k_is)
    (case na_Terms_late_fee => k_is)
    (case na_Terms_grace => k_is)
    (case na_Terms_early_part => k_is)
    (case na_Terms_early_months => k_is)
    (case na_Terms_order => k_is)
    (case na_Terms_penalty => k_is)
    (case third => k_is)
    (case zsuper => k_is)
    (case spc => k_is)
    (case tkc => k_is)
    (case a_BookError => k_is)
    (case ga_BookError => k_is)
    (case gg_BookError => k_is)
    (case sb_BookError => k_is)
    (case hd_BookError => k_is)
    (case ha_BookError => k_is)
    (case hm_BookError => k_is)
    (case ty_BookError => k_is)
    (case se_BookError => k_is)
    (case a_OutOfRange => k_is)
    (case ga_OutOfRange => k_is)
    (case gg_OutOfRange => k_is)
    (case sb_OutOfRange => k_is)
    (case hd_OutOfRange => k_is)
    (case ha_OutOfRange => k_is)
    (case hm_OutOfRange => k_is)
    (case ty_OutOfRange => k_is)
    (case se_OutOfRange => k_is)
    (case xL_OutOfRange => k_is)
    (case sa_OutOfRange => k_is)
    (case kp_OutOfRange => k_is)
    (case i_OutOfRange => k_is)
    (case ti_OutOfRange => k_is)
    (case li_OutOfRange => k_is)
    (case ci_OutOfRange => k_is)
    (case ce_OutOfRange => k_is)
    (case co_OutOfRange => k_is)
    (case vs_OutOfRange => rfl)
    (case fi_OutOfRange => decide +kernel)
    (case su_OutOfRange => ks_is)
    (case ve_OutOfRange => k_is)
    (case n_OutOfRange_label => k_is)
    (case n_OutOfRange_value => k_is)
    (case a_UnknownName => k_is)
    (case ga_UnknownName => k_is)
    (case gg_UnknownName => k_is)
    (case sb_UnknownName => k_is)
    (case hd_UnknownName => k_is)
    (case ha_UnknownName => k_is)
    (case hm_UnknownName => k_is)
    (case ty_UnknownName => k_is)
    (case se_UnknownName => k_is)
    (case xL_UnknownName => k_is)
    (case sa_UnknownName => k_is)
    (case kp_UnknownName => k_is)
    (case i_UnknownName => k_is)
    (case ti_UnknownName => k_is)
    (case li_UnknownName => k_is)
    (case ci_UnknownName => k_is)
    (case ce_UnknownName => k_is)
    (case co_UnknownName => k_is)
    (case vs_UnknownName => rfl)
    (case fi_UnknownName => decide +kernel)
    (case su_UnknownName => ks_is)
    (case ve_UnknownName => k_is)
    (case n_UnknownName_label => k_is)
    (case n_UnknownName_name => k_is)
    (case a_BadName => k_is)
    (case ga_BadName => k_is)
    (case gg_BadName => k_is)
    (case sb_BadName => k_is)
    (case hd_BadName => k_is)
    (case ha_BadName => k_is)
    (case hm_BadName => k_is)
    (case ty_BadName => k_is)
    (case se_BadName => k_is)
    (case xL_BadName => k_is)
    (case sa_BadName => k_is)
    (case kp_BadName => k_is)
    (case i_BadName => k_is)
    (case ti_BadName => k_is)
    (case li_BadName => k_is)
    (case ci_BadName => k_is)
    (case ce_BadName => k_is)
    (case co_BadName => k_is)
    (case vs_BadName => rfl)
    (case fi_BadName => decide +kernel)
    (case su_BadName => ks_is)
    (case ve_BadName => k_is)
    (case n_BadName_label => k_is)
    (case n_BadName_name => k_is)
    (case y_BookError_BookError => k_is)
    (case y_BookError_OutOfRange => k_is)
    (case y_BookError_UnknownName => k_is)
    (case y_BookError_BadName => k_is)
    (case yv_BookError => k_is)
    (case y_OutOfRange_BookError => k_is)
    (case y_OutOfRange_OutOfRange => k_is)
    (case y_OutOfRange_UnknownName => k_is)
    (case y_OutOfRange_BadName => k_is)
    (case yv_OutOfRange => k_is)
    (case y_UnknownName_BookError => k_is)
    (case y_UnknownName_OutOfRange => k_is)
    (case y_UnknownName_UnknownName => k_is)
    (case y_UnknownName_BadName => k_is)
    (case yv_UnknownName => k_is)
    (case y_BadName_BookError => k_is)
    (case y_BadName_OutOfRange => k_is)
    (case y_BadName_UnknownName => k_is)
    (case y_BadName_BadName => k_is)
    (case yv_BadName => k_is)
    (case a_MOST_CENTS => k_is)
    (case a_MOST_RATE => k_is)
    (case a_NAME_LENGTH => k_is)
    (case a_RULES => k_is)
    (case l_RULES => k_is)
    (case u_RULES => decide +kernel)
    (case a_PARTS => k_is)
    (case l_PARTS => k_is)
    (case kl_PARTS => k_keys)
    (case u_PARTS => exact (Eq.refl true))
    (case lo_PARTS => decide +kernel)
    (case a_MODES => k_is)
    (case l_MODES => k_is)
    (case u_MODES => decide +kernel)
    (case a_SCHEMES => k_is)
    (case l_SCHEMES => k_is)
    (case u_SCHEMES => decide +kernel)
    (case a_EVERY => k_is)
    (case l_EVERY => k_is)
    (case u_EVERY => decide +kernel)
    (case a_USUAL_ORDER => k_is)
    (case l_USUAL_ORDER => k_is)
    (case u_USUAL_ORDER => decide +kernel)
    (case a_SHORTEST_MONTH => k_is)
    (case a_MOST_COUNT => k_is)
    (case a_MOST_FREE => k_is)
    (case a_MOST_GRACE => k_is)
    (case a_MOST_PART => k_is)
    (case z_len => k_is)
    (case z_tuple => k_is)
    (case z_sorted => k_is)
    (case z_abs => k_is)
    (case z_range => k_is)
    (case z_int => k_is)
    (case z_isinstance => k_is)
    (case z_bool => k_is)
    (case z_min => k_is)
    (case z_str => k_is)
    (case z_max => k_is)
